import PyProof.Rows.All
import Wide.All
import OpenK.AllK
import Wide.FinOn
import HandS.ForMost
import HandS.Deep
import HandS.DeepEq
import HandS.TupAny
import HandS.TupLe
import HandS.Style
import HandS.Walk
import HandS.Conv
import HandS.SortInts
import HandS.Zip
import HandS.Rev
import HandS.RevRange
import HandS.IsInst
import PyProof.ReprRoads
import KE.DataMinMax
import HandS.TupMul
import KE.KTupSum
import PyProof.Rows.IntBool
import KE.GoesMore
import KE.GoesEnum
import HandS.Words
import HandS.Codes
import HandS.Ends
import HandS.Flt
import HandS.RevTup
import HandS.TryOnly
import HandS.Small
import PyProof.NeKinds
import HandS.SortKw
import HandS.Text
import HandS.Flow
import PyProof.TupleOfSeq
import PySem.Challenge.RW_bendtables_k35_whole_powers_of_what_bend
import PyProof.Rows.ReprOcc
import PyProof.ReprLen
set_option Elab.async false
set_option linter.all false
set_option autoImplicit false
set_option maxRecDepth 100000
/-! M1: abstract values, their representation, the relation of slots, heap and cells. -/
namespace M61
open PySem PySem.Spec PyProof.Rows L2

/-- an abstract value: trees of tuples and of lists that nobody changes any more; a cell by its address -/
inductive D where
  | non | bl (b : Bool) | int (i : Int) | str (x : Str) | tup (xs : List D) | lst (xs : List D) | ref (a : Addr)
  /-- the script -/
  | scr (xs : List D)
  /-- a dict that nobody changes -/
  | dic
/-- what such a dict is kept as -/
def isDic : HO → Prop
  | .dT _ => True
  | .dK kvs => kvs ≠ []
  | _ => False

mutual
inductive Rep (K : PySem.W.Frag) (F : Hp) : V → D → Prop
  | non : Rep K F .non .non
  | bl (b : Bool) : Rep K F (.bl b) (.bl b)
  | int (i : Int) : Rep K F (.int i) (.int i)
  | str (x : Str) : Rep K F (.str x) (.str x)
  | tup {a : Addr} {xs : List V} {ds : List D} : SqT K F a xs → Reps K F xs ds → Rep K F (.ref a) (.tup ds)
  | lst {a : Addr} {xs : List V} {ds : List D} : F a = some (HO.lst xs) → Reps K F xs ds → Rep K F (.ref a) (.lst ds)
  | scr {a : Addr} {xs : List V} {ds : List D} : SqL K F a xs → Reps K F xs ds → Rep K F (.ref a) (.scr ds)
  | ref (a : Addr) : Rep K F (.ref a) (.ref a)
  | dic {a : Addr} {u : HO} : F a = some u → isDic u → Rep K F (.ref a) .dic
inductive Reps (K : PySem.W.Frag) (F : Hp) : List V → List D → Prop
  | nil : Reps K F [] []
  | cons {v : V} {vs : List V} {d : D} {ds : List D} : Rep K F v d → Reps K F vs ds → Reps K F (v :: vs) (d :: ds)
end

section
variable {K : PySem.W.Frag} {F F' H H' : Hp}
theorem sqT_same {a : Addr} {xs : List V} (s : Same F F') (h : SqT K F a xs) : SqT K F' a xs := by
  rcases h with (q | ⟨o, q⟩) | q
  · exact .inl (.inl (s _ _ q))
  · exact .inl (.inr ⟨o, s _ _ q⟩)
  · exact .inr q
theorem sqL_same {a : Addr} {xs : List V} (s : Same F F') (h : SqL K F a xs) : SqL K F' a xs := s.seq h
mutual
theorem Rep.mono (s : Same F F') : ∀ {v : V} {d : D}, Rep K F v d → Rep K F' v d
  | _, _, .non => .non
  | _, _, .bl b => .bl b
  | _, _, .int i => .int i
  | _, _, .str x => .str x
  | _, _, .tup h r => .tup (sqT_same s h) (Reps.mono s r)
  | _, _, .lst h r => .lst (s _ _ h) (Reps.mono s r)
  | _, _, .scr h r => .scr (sqL_same s h) (Reps.mono s r)
  | _, _, .ref a => .ref a
  | _, _, .dic h d => .dic (s _ _ h) d
theorem Reps.mono (s : Same F F') : ∀ {vs : List V} {ds : List D}, Reps K F vs ds → Reps K F' vs ds
  | _, _, .nil => .nil
  | _, _, .cons r t => .cons (Rep.mono s r) (Reps.mono s t)
end
theorem Reps.length : ∀ {vs : List V} {ds : List D}, Reps K F vs ds → vs.length = ds.length
  | _, _, .nil => rfl
  | _, _, .cons _ t => by rw [List.length_cons, List.length_cons, Reps.length t]
theorem Reps.get : ∀ {vs : List V} {ds : List D} {i : Nat} {v : V}, Reps K F vs ds → vs[i]? = some v → ∃ d, ds[i]? = some d ∧ Rep K F v d
  | _, _, _, _, .nil, h => by simp at h
  | _, _, 0, _, .cons r _, h => by simp at h; subst h; exact ⟨_, rfl, r⟩
  | _, _, i + 1, _, .cons _ t, h => by
    obtain ⟨d, e, r⟩ := Reps.get (i := i) t (by simpa using h)
    exact ⟨d, by simpa using e, r⟩
theorem Reps.getD : ∀ {vs : List V} {ds : List D} {i : Nat} {d : D}, Reps K F vs ds → ds[i]? = some d → ∃ v, vs[i]? = some v ∧ Rep K F v d
  | _, _, _, _, .nil, h => by simp at h
  | _, _, 0, _, .cons r _, h => by simp at h; subst h; exact ⟨_, rfl, r⟩
  | _, _, i + 1, _, .cons _ t, h => by
    obtain ⟨d, e, r⟩ := Reps.getD (i := i) t (by simpa using h)
    exact ⟨d, by simpa using e, r⟩
theorem Reps.append : ∀ {vs ws : List V} {ds es : List D}, Reps K F vs ds → Reps K F ws es → Reps K F (vs ++ ws) (ds ++ es)
  | _, _, _, _, .nil, s => s
  | _, _, _, _, .cons r t, s => .cons r (Reps.append t s)
theorem Reps.take : ∀ {vs : List V} {ds : List D} (n : Nat), Reps K F vs ds → Reps K F (vs.take n) (ds.take n)
  | _, _, 0, _ => .nil
  | _, _, _ + 1, .nil => .nil
  | _, _, n + 1, .cons r t => .cons r (Reps.take n t)
theorem Reps.drop : ∀ {vs : List V} {ds : List D} (n : Nat), Reps K F vs ds → Reps K F (vs.drop n) (ds.drop n)
  | _, _, 0, r => r
  | _, _, _ + 1, .nil => .nil
  | _, _, n + 1, .cons _ t => Reps.drop n t
theorem Reps.set : ∀ {vs : List V} {ds : List D} {v : V} {d : D} (i : Nat), Rep K F v d → Reps K F vs ds → Reps K F (vs.set i v) (ds.set i d)
  | _, _, _, _, _, _, .nil => .nil
  | _, _, _, _, 0, r, .cons _ t => .cons r t
  | _, _, _, _, i + 1, r, .cons q t => .cons q (Reps.set i r t)
theorem Reps.reverse : ∀ {vs : List V} {ds : List D}, Reps K F vs ds → Reps K F vs.reverse ds.reverse
  | _, _, .nil => .nil
  | _, _, .cons r t => by rw [List.reverse_cons, List.reverse_cons]; exact (Reps.reverse t).append (.cons r .nil)
theorem Reps.replicate {v : V} {d : D} (r : Rep K F v d) : ∀ n : Nat, Reps K F (List.replicate n v) (List.replicate n d)
  | 0 => .nil
  | n + 1 => .cons r (Reps.replicate r n)
theorem Reps.flatten {vs : List V} {ds : List D} (r : Reps K F vs ds) : ∀ n : Nat, Reps K F (List.replicate n vs).flatten (List.replicate n ds).flatten
  | 0 => .nil
  | n + 1 => by rw [List.replicate_succ, List.replicate_succ, List.flatten_cons, List.flatten_cons]; exact r.append (Reps.flatten r n)
theorem Reps.one {v : V} {d : D} (r : Rep K F v d) : Reps K F [v] [d] := .cons r .nil
end

/-- what stands in a cell: a list, a dict -/
inductive Cell where
  | lst (xs : List D)
  | dct (kvs : List (L2.Key × D))

abbrev CM := Addr → Option Cell
inductive RepKV (K : PySem.W.Frag) (F : Hp) : List (L2.Key × V) → List (L2.Key × D) → Prop
  | nil : RepKV K F [] []
  | cons {k : L2.Key} {v : V} {d : D} {vs : List (L2.Key × V)} {ds : List (L2.Key × D)} : Rep K F v d → RepKV K F vs ds → RepKV K F ((k, v) :: vs) ((k, d) :: ds)
theorem RepKV.mono {K : PySem.W.Frag} {F F' : Hp} (s : Same F F') : ∀ {vs ds}, RepKV K F vs ds → RepKV K F' vs ds
  | _, _, .nil => .nil
  | _, _, .cons r t => .cons (r.mono s) (RepKV.mono s t)
/-- the cell at a as it stands in the heap -/
def CellRep (K : PySem.W.Frag) (F H : Hp) (a : Addr) : Cell → Prop
  | .lst xs => ∃ vs, H a = some (HO.lst vs) ∧ Reps K F vs xs
  | .dct kvs => ∃ vs, H a = some (HO.dK vs) ∧ RepKV K F vs kvs
theorem CellRep.ex {K : PySem.W.Frag} {F H : Hp} {a : Addr} {c : Cell} (h : CellRep K F H a c) : ∃ o, H a = some o := by
  cases c with
  | lst xs => obtain ⟨vs, e, _⟩ := h; exact ⟨_, e⟩
  | dct xs => obtain ⟨vs, e, _⟩ := h; exact ⟨_, e⟩
theorem CellRep.mono {K : PySem.W.Frag} {F F' H H' : Hp} {a : Addr} {c : Cell} (s : Same F F') (e : ∀ o, H a = some o → H' a = some o) (h : CellRep K F H a c) : CellRep K F' H' a c := by
  cases c with
  | lst xs => obtain ⟨vs, q, r⟩ := h; exact ⟨vs, e _ q, r.mono s⟩
  | dct xs => obtain ⟨vs, q, r⟩ := h; exact ⟨vs, e _ q, r.mono s⟩

/-- an abstract slot: a value, or a list that this slot alone holds -/
inductive Dv where
  | dat (d : D)
  | own (xs : List D)
abbrev Rho := List (Option Dv)

structure Base where
  H : Hp
  F : Hp
  C : CM

/-- how heaps go on from (H, F, C) to (H', F', C') -/
structure Fr (H F : Hp) (C : CM) (H' F' : Hp) (C' : CM) : Prop where
  ff : Same F F'
  fnew : ∀ a o, F' a = some o → F a = some o ∨ H a = none
  frame : ∀ a o, H a = some o → C a = none → H' a = some o
  cnew : ∀ a c, C' a = some c → (∃ c0, C a = some c0) ∨ H a = none
  stay : ∀ a o, H a = some o → ∃ o', H' a = some o'
theorem Fr.refl (H F : Hp) (C : CM) : Fr H F C H F C := ⟨Same.refl _, fun _ _ h => .inl h, fun _ _ h _ => h, fun _ c h => .inl ⟨c, h⟩, fun _ o h => ⟨o, h⟩⟩
theorem Fr.trans {H F H1 F1 H2 F2 : Hp} {C C1 C2 : CM} (a : Fr H F C H1 F1 C1) (b : Fr H1 F1 C1 H2 F2 C2) : Fr H F C H2 F2 C2 where
  ff := a.ff.trans b.ff
  fnew := fun x o h => by
    rcases b.fnew x o h with h | h
    · exact a.fnew x o h
    · refine .inr ?_
      cases e : H x with
      | none => rfl
      | some q => obtain ⟨o', z⟩ := a.stay x q e; rw [h] at z; cases z
  frame := fun x o h hc => by
    refine b.frame x o (a.frame x o h hc) ?_
    cases e : C1 x with
    | none => rfl
    | some q =>
      rcases a.cnew x q e with ⟨c0, z⟩ | z
      · rw [hc] at z; cases z
      · rw [h] at z; cases z
  cnew := fun x c h => by
    rcases b.cnew x c h with ⟨c1, h⟩ | h
    · exact a.cnew x c1 h
    · refine .inr ?_
      cases e : H x with
      | none => rfl
      | some q => obtain ⟨o', z⟩ := a.stay x q e; rw [h] at z; cases z
  stay := fun x o h => by
    obtain ⟨o1, h1⟩ := a.stay x o h
    exact b.stay x o1 h1

/-- the cells as they stand -/
structure Cells (K : PySem.W.Frag) (F H : Hp) (C : CM) : Prop where
  fh : Same F H
  cel : ∀ a c, C a = some c → CellRep K F H a c ∧ F a = none

/-- the slots, the heap, the cells, behind a base -/
structure Rel (K : PySem.W.Frag) (B : Base) (F : Hp) (σ : L2.St) (H : Hp) (ρ : Rho) (C : CM) : Prop where
  len : ρ.length = σ.length
  ce : Cells K F H C
  fr : Fr B.H B.F B.C H F C
  dat : ∀ (i : Nat) (d : D), ρ[i]? = some (some (Dv.dat d)) → ∃ v, σ[i]? = some (some v) ∧ Rep K F v d
  own : ∀ (i : Nat) (xs : List D), ρ[i]? = some (some (Dv.own xs)) → ∃ a vs, σ[i]? = some (some (V.ref a)) ∧ H a = some (HO.lst vs) ∧ Reps K F vs xs ∧ F a = none ∧ C a = none ∧ B.H a = none
  dis : ∀ (i j : Nat) (xs ys : List D) (a : Addr), i ≠ j → ρ[i]? = some (some (Dv.own xs)) → ρ[j]? = some (some (Dv.own ys)) → σ[i]? = some (some (V.ref a)) → σ[j]? ≠ some (some (V.ref a))

/-- no slot holds a as its own -/
def NotOwn (ρ : Rho) (σ : L2.St) (a : Addr) : Prop := ∀ (j : Nat) (ys : List D), ρ[j]? = some (some (Dv.own ys)) → σ[j]? ≠ some (some (V.ref a))

/-- heaps that only grow -/
structure Grow (F H F' H' : Hp) : Prop where
  ff : Same F F'
  hh : Same H H'
  fh : Same F' H'
  fnew : ∀ a o, F' a = some o → F a = some o ∨ H a = none
theorem Grow.refl {F H : Hp} (h : Same F H) : Grow F H F H := ⟨Same.refl _, Same.refl _, h, fun _ _ h => .inl h⟩
theorem same_upd {H : Hp} {p : Addr} {o : HO} (h : H p = none) : Same H (upd H p o) := fun b x e => by
  rw [upd_ne (ne_of_none e h)]; exact e
theorem same_none {F H : Hp} {p : Addr} (s : Same F H) (h : H p = none) : F p = none := by
  cases e : F p with
  | none => rfl
  | some o => rw [s p o e] at h; cases h
theorem same_upd2 {F H : Hp} {p : Addr} {o : HO} (s : Same F H) (h : H p = none) : Same (upd F p o) (upd H p o) := fun b x e => by
  by_cases q : b = p
  · subst q; rw [upd_same] at e ⊢; exact e
  · rw [upd_ne q] at e ⊢; exact s b x e
theorem Grow.new {F H : Hp} {p : Addr} {o : HO} (s : Same F H) (h : H p = none) : Grow F H (upd F p o) (upd H p o) :=
  ⟨same_upd (same_none s h), same_upd h, same_upd2 s h, fun a x e => by
    by_cases q : a = p
    · subst q; exact .inr h
    · rw [upd_ne q] at e; exact .inl e⟩
theorem Grow.trans {F H F1 H1 F2 H2 : Hp} (a : Grow F H F1 H1) (b : Grow F1 H1 F2 H2) : Grow F H F2 H2 :=
  ⟨a.ff.trans b.ff, a.hh.trans b.hh, b.fh, fun x o e => by
    rcases b.fnew x o e with h | h
    · exact a.fnew x o h
    · exact .inr (same_none a.hh h)⟩
theorem Grow.fr {F H F' H' : Hp} (g : Grow F H F' H') {C : CM} : Fr H F C H' F' C :=
  ⟨g.ff, g.fnew, fun a o h _ => g.hh a o h, fun _ c h => .inl ⟨c, h⟩, fun a o h => ⟨o, g.hh a o h⟩⟩
theorem Cells.grow {K : PySem.W.Frag} {F H F' H' : Hp} {C : CM} (c : Cells K F H C) (g : Grow F H F' H') : Cells K F' H' C where
  fh := g.fh
  cel := fun a x h => by
    obtain ⟨r, n⟩ := c.cel a x h
    refine ⟨r.mono g.ff (fun o => g.hh a o), ?_⟩
    cases e : F' a with
    | none => rfl
    | some o =>
      obtain ⟨o2, e2⟩ := r.ex
      rcases g.fnew a o e with z | z
      · rw [n] at z; cases z
      · rw [e2] at z; cases z

section
variable {K : PySem.W.Frag} {B : Base} {F F' H H' : Hp} {σ σ' : L2.St} {ρ ρ' : Rho} {C C' : CM}
/-- a step that leaves own lists as they are -/
theorem Rel.step (R : Rel K B F σ H ρ C) (f : Fr H F C H' F' C') (c : Cells K F' H' C') : Rel K B F' σ H' ρ C' where
  len := R.len
  ce := c
  fr := R.fr.trans f
  dat := fun i d h => by
    obtain ⟨v, e, r⟩ := R.dat i d h
    exact ⟨v, e, r.mono f.ff⟩
  own := fun i xs h => by
    obtain ⟨a, vs, e, hl, r, n1, n2, n3⟩ := R.own i xs h
    refine ⟨a, vs, e, f.frame a _ hl n2, r.mono f.ff, ?_, ?_, n3⟩
    · cases q : F' a with
      | none => rfl
      | some o =>
        rcases f.fnew a o q with z | z
        · rw [n1] at z; cases z
        · rw [hl] at z; cases z
    · cases q : C' a with
      | none => rfl
      | some o =>
        rcases f.cnew a o q with ⟨_, z⟩ | z
        · rw [n2] at z; cases z
        · rw [hl] at z; cases z
  dis := R.dis
theorem Rel.grow (R : Rel K B F σ H ρ C) (g : Grow F H F' H') : Rel K B F' σ H' ρ C := R.step g.fr (R.ce.grow g)
theorem Rel.notOwn_of (R : Rel K B F σ H ρ C) {a : Addr} (h : H a = none) : NotOwn ρ σ a := fun j ys hj e => by
  obtain ⟨b, vs, e2, hl, _⟩ := R.own j ys hj
  rw [e] at e2
  cases e2
  rw [h] at hl; cases hl
theorem Rel.base_none (R : Rel K B F σ H ρ C) {a : Addr} (h : H a = none) : B.H a = none := by
  cases e : B.H a with
  | none => rfl
  | some o => obtain ⟨o', z⟩ := R.fr.stay a o e; rw [h] at z; cases z
theorem Rel.cell_none (R : Rel K B F σ H ρ C) {a : Addr} (h : H a = none) : C a = none := by
  cases e : C a with
  | none => rfl
  | some c => obtain ⟨o, z⟩ := (R.ce.cel a c e).1.ex; rw [h] at z; cases z
/-- forget slots -/
theorem Rel.weak (R : Rel K B F σ H ρ C) (hl : ρ'.length = σ'.length) (h : ∀ (i : Nat) (x : Dv), ρ'[i]? = some (some x) → ρ[i]? = some (some x) ∧ σ'[i]? = σ[i]?) : Rel K B F σ' H ρ' C where
  len := hl
  ce := R.ce
  fr := R.fr
  dat := fun i d q => by obtain ⟨q1, q2⟩ := h i _ q; rw [q2]; exact R.dat i d q1
  own := fun i xs q => by obtain ⟨q1, q2⟩ := h i _ q; rw [q2]; exact R.own i xs q1
  dis := fun i j xs ys a n q1 q2 q3 => by
    obtain ⟨p1, e1⟩ := h i _ q1
    obtain ⟨p2, e2⟩ := h j _ q2
    rw [e2]; rw [e1] at q3
    exact R.dis i j xs ys a n p1 p2 q3
/-- a slot takes a value -/
theorem Rel.setDat (R : Rel K B F σ H ρ C) (i : Nat) {v : V} {d : D} (r : Rep K F v d) : Rel K B F (σ.set i (some v)) H (ρ.set i (some (Dv.dat d))) C where
  len := by rw [List.length_set, List.length_set]; exact R.len
  ce := R.ce
  fr := R.fr
  dat := fun j e h => by
    rw [List.getElem?_set] at h
    rw [List.getElem?_set]
    split at h
    · rename_i q
      split at h
      · rename_i q2
        rw [if_pos q, if_pos (by rw [← R.len]; exact q2)]
        cases h
        exact ⟨v, rfl, r⟩
      · cases h
    · rename_i q
      rw [if_neg q]
      exact R.dat j e h
  own := fun j xs h => by
    rw [List.getElem?_set] at h
    rw [List.getElem?_set]
    split at h
    · split at h
      · cases h
      · cases h
    · rename_i q
      rw [if_neg q]
      exact R.own j xs h
  dis := fun j k xs ys a n q1 q2 q3 => by
    rw [List.getElem?_set] at q1 q2 q3 ⊢
    split at q1
    · split at q1 <;> cases q1
    · rename_i z1
      split at q2
      · split at q2 <;> cases q2
      · rename_i z2
        rw [if_neg z1] at q3
        rw [if_neg z2]
        exact R.dis j k xs ys a n q1 q2 q3
/-- a slot takes a list as its own -/
theorem Rel.setOwn (R : Rel K B F σ H ρ C) (i : Nat) {a : Addr} {vs : List V} {xs : List D} (hl : H a = some (HO.lst vs)) (r : Reps K F vs xs) (n1 : F a = none) (n2 : C a = none) (n3 : B.H a = none) (no : NotOwn ρ σ a) :
    Rel K B F (σ.set i (some (V.ref a))) H (ρ.set i (some (Dv.own xs))) C where
  len := by rw [List.length_set, List.length_set]; exact R.len
  ce := R.ce
  fr := R.fr
  dat := fun j e h => by
    rw [List.getElem?_set] at h
    rw [List.getElem?_set]
    split at h
    · split at h <;> cases h
    · rename_i q
      rw [if_neg q]
      exact R.dat j e h
  own := fun j ys h => by
    rw [List.getElem?_set] at h
    rw [List.getElem?_set]
    split at h
    · rename_i q
      split at h
      · rename_i q2
        rw [if_pos q, if_pos (by rw [← R.len]; exact q2)]
        cases h
        exact ⟨a, vs, rfl, hl, r, n1, n2, n3⟩
      · cases h
    · rename_i q
      rw [if_neg q]
      exact R.own j ys h
  dis := fun j k ys zs b n q1 q2 q3 => by
    rw [List.getElem?_set] at q1 q2 q3 ⊢
    split at q1
    · rename_i z1
      subst z1
      rw [if_pos rfl] at q3
      rw [if_neg (Ne.symm n).symm] at q2
      rw [if_neg (Ne.symm n).symm]
      split at q3
      · cases q3
        exact no k zs q2
      · cases q3
    · rename_i z1
      rw [if_neg z1] at q3
      split at q2
      · rename_i z2
        split at q2
        · rename_i z3
          rw [if_pos z2, if_pos (by rw [← R.len]; exact z3)]
          intro e
          cases e
          exact no j ys q1 q3
        · cases q2
      · rename_i z2
        rw [if_neg z2]
        exact R.dis j k ys zs b n q1 q2 q3
end
end M61

set_option Elab.async false
set_option linter.all false
set_option autoImplicit false
set_option maxRecDepth 100000
/-! M2: the inner form of the program's text, and what it means. -/
namespace M61
open PySem PySem.Spec PyProof.Rows L2

inductive Bop where | add | sub | mul | fdiv | mod | pow | shl
  deriving DecidableEq
inductive Cop where | eq | ne | lt | le | gt | ge | is | isn | inn | nin
  deriving DecidableEq
/-- built-ins that are asked of values -/
inductive Blt where | len | tuple | sum | min | max | min2 | max2 | abs | int | all | any | repr | min3 | str | mind | maxd | min2d
  deriving DecidableEq
/-- built-in kinds -/
inductive Ty where | int | bool | tuple | list | str | dict
  deriving DecidableEq

mutual
inductive Tg where
  | nm (i : Nat)
  | tp (ts : Tgs)
inductive Tgs where
  | nil
  | cons (t : Tg) (ts : Tgs)
end

mutual
inductive E where
  | var (i : Nat)
  | mv (i : Nat)
  | non | bl (b : Bool) | int (i : Int) | str (s : String)
  | con (x : String) (i : Int)
  | cns (x : String) (s : String)
  | bin (o : Bop) (a b : E)
  | neg (a : E)
  | cmp (o : Cop) (a b : E)
  | chn (o o' : Cop) (a b c : E)
  | chn3 (o o' o'' : Cop) (a b c d : E)
  | dlk (kvs : List (String × String)) (a : E)
  | and (a b : E) | or (a b : E) | not (a : E)
  | ife (t : T) (a b : E)
  | tup (es : Es)
  | frz (l : L)
  | cel (l : L)
  | ix (a b : E)
  | sl (a : E) (lo hi : O)
  | rev (a : E)
  | call (f : String) (es : Es)
  | blt (f : Blt) (es : Es)
  | isi (a : E) (t : Ty)
  | oix (i : Nat) (b : E)
  | olen (i : Nat)
  | one (i : Nat)
  | oem (i : Nat)
  | cne (a : E) | ceq (a : E)
  | lne (a : E) | leq (a : E)
  | opop (i : Nat)
  | cpop (o : E)
  | cpopA (o k : E)
  | indx (a b : E)
  | edic
  | ndic (k : Int ⊕ String) (a : E)
  | celd (ks : List String) (es : Es)
  | dix (a : E) (k : String)
  | mxo (k : Bool) (a b : E)
  | gget (x : String) (kvs : List (String × Int)) (a : E)
  | upr (a : E)
  | orv (a b : E)
inductive T where
  | and (a b : T) | or (a b : T) | not (a : T)
  | cmp (o : Cop) (a b : E)
  | chn (o o' : Cop) (a b c : E)
  | chn3 (o o' o'' : Cop) (a b c d : E)
  | one (i : Nat) | oem (i : Nat)
  | tne (a : E) | teq (a : E)
  | lne (a : E) | leq (a : E)
  | cne (a : E) | ceq (a : E)
  | val (e : E)
inductive Es where
  | nil
  | cons (e : E) (es : Es)
inductive Oc where
  | no
  | yes (t : T)
inductive O where
  | no
  | yes (e : E)
inductive L where
  | lit (es : Es)
  | comp (own : List Nat) (elt : E) (tg : Tg) (it : I) (c : Oc)
  | compc (own : List Nat) (elt : E) (tg : Tg) (e : E) (c : Oc)
  | list (e : E)
  | srt (e : E)
  | srr (e : E)
  | lrg1 (a : E) | lrg2 (a b : E) | lrv (a : E) | ls2 (a : E)
  | rep (a b : E)
  | cat (a b : E) | rvd (a : E)
inductive I where
  | seq (e : E)
  | rng1 (a : E) | rng2 (a b : E) | rng3 (a b c : E)
  | enum (e : E)
  | zip (a b : E) | zip3 (a b c : E)
  | rvs (e : E)
  | rvr (a b : E) | rvr1 (a : E)
end

mutual
inductive S where
  | set (i : Nat) (e : E)
  | own (i : Nat) (l : L)
  | setF (i : Nat) (l : L)
  | unp (tg : Tg) (e : E)
  | par2 (i j : Nat) (es : Es) | par3 (i j l : Nat) (es : Es)
  | aug (i : Nat) (o : Bop) (e : E)
  | app (i : Nat) (e : E)
  | oset (i : Nat) (k e : E)
  | oaug (i : Nat) (k : E) (o : Bop) (e : E)
  | ext (i : Nat) (e : E)
  | csub (o k e : E)
  | capp (o e : E)
  | cins (o k e : E)
  | dset (o : E) (k : String) (e : E)
  | exp (e : E)
  | ife (t : T) (a b : Ss)
  | for (tg : Tg) (it : I) (b : Ss)
  | forc (tg : Tg) (e : E) (b : Ss)
  | whl (t : T) (b : Ss)
  | ret (e : E) | ret0 | pass | brk | cnt
  | nev
inductive Ss where
  | nil
  | cons (s : S) (ss : Ss)
end

structure Def where
  ps : Nat
  ns : Nat
  body : Ss

/-- an exception: its class, its fields -/
structure Exc where
  cls : String
  fields : List D
abbrev Gam := String → List D → CM → (D → CM → Prop) → (Exc → CM → Prop) → Prop
structure Ctx where
  Γ : Gam
  ex : Exc → CM → Prop

/-! ### operations -/
mutual
def D.py : D → PyData
  | .non => .none
  | .bl b => .bool b
  | .int i => .int i
  | .str x => .str x
  | .tup xs => .tuple (D.pys xs)
  | .lst xs => .list (D.pys xs)
  | .ref _ => .none
  | .scr _ => .none
  | .dic => .none
def D.pys : List D → List PyData
  | [] => []
  | x :: xs => D.py x :: D.pys xs
end
mutual
def D.pure : D → Bool
  | .non => true
  | .bl _ => true
  | .int _ => true
  | .str _ => true
  | .tup xs => D.pures xs
  | .lst xs => D.pures xs
  | .ref _ => false
  | .scr _ => false
  | .dic => false
def D.pures : List D → Bool
  | [] => true
  | x :: xs => D.pure x && D.pures xs
end
/-- a tree that may be compared -/
def D.Cmp (d : D) : Prop := d.pure = true ∧ SeqAt.shaped d.py = true
def D.eqv (d e : D) : Bool := PyData.eqv d.py e.py
def D.flat : D → Bool
  | .non => true
  | .bl _ => true
  | .int _ => true
  | .str _ => true
  | _ => false
def D.isNon : D → Bool
  | .non => true
  | _ => false

def intsOf : List D → Option (List Int)
  | [] => some []
  | .int i :: r => (intsOf r).map (i :: ·)
  | _ :: _ => none
def binR : Bop → D → D → (D → Prop) → Prop
  | .add, .int i, .int j, P => P (.int (i + j))
  | .add, .str x, .str y, P => x.length + y.length ≤ sizeLine ∧ P (.str (x ++ y))
  | .add, .tup xs, .tup ys, P => xs.length + ys.length ≤ sizeLine ∧ P (.tup (xs ++ ys))
  | .add, .lst xs, .lst ys, P => xs.length + ys.length ≤ sizeLine ∧ P (.lst (xs ++ ys))
  | .sub, .int i, .int j, P => P (.int (i - j))
  | .add, .bl b, .int j, P => P (.int ((if b = true then 1 else 0) + j))
  | .sub, .bl b, .int j, P => P (.int ((if b = true then 1 else 0) - j))
  | .mul, .int i, .int j, P => CMul i j ∧ P (.int (i * j))
  | .mul, .tup xs, .int k, P => -1000 ≤ k ∧ k ≤ 1000 ∧ xs.length ≤ 1000 ∧ P (.tup (List.replicate k.toNat xs).flatten)
  | .mul, .lst xs, .int k, P => -(2 ^ 63) ≤ k ∧ k < 2 ^ 63 ∧ xs.length * k.toNat ≤ sizeLine ∧ P (.lst (List.replicate k.toNat xs).flatten)
  | .fdiv, .int i, .int j, P => CDiv i j ∧ P (.int (i / j))
  | .mod, .int i, .int j, P => 0 < j ∧ P (.int (i % j))
  | .pow, .int i, .int j, P => CPow i j ∧ P (.int (i ^ j.toNat))
  | .shl, .int i, .int j, P => CPow i j ∧ P (.int (i * 2 ^ j.toNat))
  | _, _, _, _ => False

def cmpR : Cop → D → D → (Bool → Prop) → Prop
  | .eq, d, e, P => d.Cmp ∧ e.Cmp ∧ P (d.eqv e)
  | .ne, d, e, P => d.Cmp ∧ e.Cmp ∧ P (!d.eqv e)
  | .lt, .int i, .int j, P => P (decide (i < j))
  | .le, .int i, .int j, P => P (decide (i ≤ j))
  | .gt, .int i, .int j, P => P (decide (j < i))
  | .ge, .int i, .int j, P => P (decide (j ≤ i))
  | .lt, .tup xs, .tup ys, P => ∃ ns ms, intsOf xs = some ns ∧ intsOf ys = some ms ∧ P (HT.lexLt ns ms)
  | .is, d, .non, P => P d.isNon
  | .isn, d, .non, P => P (!d.isNon)
  | .is, .bl a, .bl b, P => P (decide (a = b))
  | .isn, .bl a, .bl b, P => P (!decide (a = b))
  | .inn, d, .tup ds, P => d.flat = true ∧ ds.all D.flat = true ∧ P (ds.any fun z => z.eqv d)
  | .nin, d, .tup ds, P => d.flat = true ∧ ds.all D.flat = true ∧ P (!ds.any fun z => z.eqv d)
  | .inn, d, .lst ds, P => d.Cmp ∧ (D.lst ds).Cmp ∧ P (ds.any fun z => z.eqv d)
  | .nin, d, .lst ds, P => d.Cmp ∧ (D.lst ds).Cmp ∧ P (!ds.any fun z => z.eqv d)
  | .inn, .str x, .str z, P => ∃ c, x = ⟨#[c]⟩ ∧ P (decide (c ∈ z.cps.toList))
  | .nin, .str x, .str z, P => ∃ c, x = ⟨#[c]⟩ ∧ P (!decide (c ∈ z.cps.toList))
  | _, _, _, _ => False

def truD : D → (Bool → Prop) → Prop
  | .non, P => P false
  | .bl b, P => P b
  | .int i, P => P (i != 0)
  | .str x, P => x.length ≤ sizeLine ∧ P ((x.length : Int) != 0)
  | .tup xs, P => P (!xs.isEmpty)
  | .lst xs, P => P (!xs.isEmpty)
  | _, _ => False

/-- what a cell has at a key -/
def cellAt : Option Cell → D → Option D
  | some (.lst xs), .int i => atI xs i
  | _, _ => none
def itemR (C : CM) : D → D → (D → Prop) → Prop
  | .tup xs, .int i, P => ∃ d, atI xs i = some d ∧ P d
  | .lst xs, .int i, P => ∃ d, atI xs i = some d ∧ P d
  | .str z, .int i, P => z.length ≤ sizeLine ∧ ∃ c, atI z.cps.toList i = some c ∧ P (.str ⟨#[c]⟩)
  | .scr xs, .int i, P => ∃ d, atI xs i = some d ∧ P d
  | .ref a, k, P => ∃ d, cellAt (C a) k = some d ∧ P d
  | _, _, _ => False

def cutD (xs : List D) (lo hi : Option Int) : List D := (xs.drop (HT.sIx xs.length 0 lo)).take (HT.sIx xs.length xs.length hi - HT.sIx xs.length 0 lo)
def sliceR (C : CM) : D → Option Int → Option Int → (D → Prop) → Prop
  | .tup xs, lo, hi, P => P (.tup (cutD xs lo hi))
  | .lst xs, lo, hi, P => P (.lst (cutD xs lo hi))
  | .scr xs, lo, hi, P => P (.lst (cutD xs lo hi))
  | .ref a, lo, hi, P => ∃ xs, C a = some (.lst xs) ∧ P (.lst (cutD xs lo hi))
  | _, _, _, _ => False
def revR : D → (D → Prop) → Prop
  | .lst xs, P => P (.lst xs.reverse)
  | .tup xs, P => P (.tup xs.reverse)
  | _, _ => False

def boolsOf : List D → Option (List Bool)
  | [] => some []
  | .bl i :: r => (boolsOf r).map (i :: ·)
  | _ :: _ => none
def minI : List Int → Int
  | [] => 0
  | x :: r => r.foldl min x
def maxI : List Int → Int
  | [] => 0
  | x :: r => r.foldl max x
def insI (x : Int) : List Int → List Int
  | [] => [x]
  | y :: r => if x ≤ y then x :: y :: r else y :: insI x r
def sortI : List Int → List Int
  | [] => []
  | x :: r => insI x (sortI r)

def lenD : D → Option Nat
  | .tup xs => some xs.length
  | .lst xs => some xs.length
  | .scr xs => some xs.length
  | _ => none
def cellL : Option Cell → Option (List D)
  | some (.lst xs) => some xs
  | _ => none
/-- a list's elements -/
def lstD (C : CM) : D → Option (List D)
  | .lst xs => some xs
  | .ref a => cellL (C a)
  | _ => none
def seqD (C : CM) : D → Option (List D)
  | .tup xs => some xs
  | .lst xs => some xs
  | .ref a => cellL (C a)
  | _ => none

def bltR (C : CM) : Blt → List D → (D → Prop) → Prop
  | .len, [.ref a], P => ∃ xs, C a = some (.lst xs) ∧ P (.int xs.length)
  | .len, [.str x], P => x.length ≤ sizeLine ∧ P (.int x.length)
  | .len, [d], P => ∃ n, lenD d = some n ∧ P (.int (n : Nat))
  | .tuple, [d], P => ∃ xs, seqD C d = some xs ∧ P (.tup xs)
  | .sum, [d], P => ∃ xs ns, seqD C d = some xs ∧ intsOf xs = some ns ∧ P (.int ns.sum)
  | .min, [d], P => ∃ xs ns, seqD C d = some xs ∧ intsOf xs = some ns ∧ ns ≠ [] ∧ P (.int (minI ns))
  | .max, [d], P => ∃ xs ns, seqD C d = some xs ∧ intsOf xs = some ns ∧ ns ≠ [] ∧ P (.int (maxI ns))
  | .min2, [.int i, .int j], P => P (.int (if j < i then j else i))
  | .max2, [.int i, .int j], P => P (.int (if j > i then j else i))
  | .abs, [.int i], P => P (.int (if i < 0 then -i else i))
  | .int, [.int i], P => P (.int i)
  | .int, [.bl b], P => P (.int (if b then 1 else 0))
  | .str, [.int i], P => i.natAbs.log2 < 1920 ∧ P (.str (Str.ofString (toString i)))
  | .mind, [d], P => ∃ x xs, seqD C d = some (x :: xs) ∧ D.pures (x :: xs) = true ∧ PySem.W.AlikeAll (D.pys (x :: xs)) ∧ PyData.depthAll (D.pys (x :: xs)) ≤ 64 ∧ ∀ y ∈ x :: xs, y.py = PySem.W.minD x.py (D.pys xs) → P y
  | .min2d, [x, y], P => D.pures [x, y] = true ∧ PySem.W.AlikeAll (D.pys [x, y]) ∧ PyData.depthAll (D.pys [x, y]) ≤ 64 ∧ ∀ z ∈ [x, y], z.py = PySem.W.minD x.py (D.pys [y]) → P z
  | .maxd, [d], P => ∃ x xs, seqD C d = some (x :: xs) ∧ D.pures (x :: xs) = true ∧ PySem.W.AlikeAll (D.pys (x :: xs)) ∧ PyData.depthAll (D.pys (x :: xs)) ≤ 64 ∧ ∀ y ∈ x :: xs, y.py = PySem.W.maxD x.py (D.pys xs) → P y
  | .repr, [d], P => d.pure = true ∧ d.py.showable = true ∧ d.py.hasDict = false ∧ d.py.depth ≤ 64 ∧ d.py.shown.length ≤ sizeLine ∧ P (.str d.py.shown)
  | .min3, [.int i, .int j, .int k], P => P (.int (min (min i j) k))
  | .all, [.lst xs], P => ∃ bs, boolsOf xs = some bs ∧ P (.bl (bs.all id))
  | .any, [.lst xs], P => ∃ bs, boolsOf xs = some bs ∧ P (.bl (bs.any id))
  | _, _, _ => False

def isTy : Ty → D → Option Bool
  | _, .ref _ => none
  | _, .scr _ => none
  | .int, d => some (match d with | .int _ => true | .bl _ => true | _ => false)
  | .bool, d => some (match d with | .bl _ => true | _ => false)
  | .tuple, d => some (match d with | .tup _ => true | _ => false)
  | .list, d => some (match d with | .lst _ => true | _ => false)
  | .str, d => some (match d with | .str _ => true | _ => false)
  | .dict, d => some (match d with | .dic => true | _ => false)

/-- the first place of d among ds -/
def firstAt (d : D) : List D → Option Nat
  | [] => none
  | z :: r => if z.eqv d then some 0 else (firstAt d r).map (· + 1)
def rangeD (lo : Int) (c : Int) (n : Nat) : List D := (List.range n).map fun i => .int (lo + (i : Nat) * c)
/-- how many numbers a range has -/
def rangeN (a b c : Int) : Nat := if 0 < c then ((b - a + c - 1) / c).toNat else ((a - b + (-c) - 1) / (-c)).toNat
def bnd (a b : Int) : Prop := -(2 ^ 62) ≤ a ∧ a < 2 ^ 62 ∧ -(2 ^ 62) ≤ b ∧ b < 2 ^ 62
/-- a list's or a tuple's parts -/
def sqD : D → Option (List D)
  | .tup xs => some xs
  | .lst xs => some xs
  | _ => none
def zip3D : List D → List D → List D → List D
  | x :: xs, y :: ys, z :: zs => .tup [x, y, z] :: zip3D xs ys zs
  | _, _, _ => []
/-- what a display of texts has at a text -/
def dlkAt (kvs : List (String × String)) (s : Str) : Option V := valV (mergeK [] (kvs.map fun p => (Sum.inr (Str.ofString p.1), V.str (Str.ofString p.2)))) (Sum.inr s)
def zipD : List D → List D → List D
  | x :: xs, y :: ys => .tup [x, y] :: zipD xs ys
  | _, _ => []
def enumD (k : Nat) : List D → List D
  | [] => []
  | x :: xs => .tup [.int (k : Nat), x] :: enumD (k + 1) xs
/-- slots forgotten -/
def wipeR (ρ : Rho) : List Nat → Rho
  | [] => ρ
  | v :: vs => (wipeR ρ vs).set v none

mutual
def bindT : Tg → D → Rho → (Rho → Prop) → Prop
  | .nm i, d, ρ, P => P (ρ.set i (some (.dat d)))
  | .tp ts, .tup ds, ρ, P => bindTs ts ds ρ P
  | .tp ts, .lst ds, ρ, P => bindTs ts ds ρ P
  | .tp _, _, _, _ => False
def bindTs : Tgs → List D → Rho → (Rho → Prop) → Prop
  | .nil, [], ρ, P => P ρ
  | .cons t ts, d :: ds, ρ, P => bindT t d ρ fun ρ' => bindTs ts ds ρ' P
  | _, _, _, _ => False
end

def varD (ρ : Rho) (i : Nat) (P : D → Prop) : Prop := match ρ[i]? with
  | some (some (.dat d)) => P d
  | _ => False
def varO (ρ : Rho) (i : Nat) (P : List D → Prop) : Prop := match ρ[i]? with
  | some (some (.own xs)) => P xs
  | _ => False

/-- a slot's list, the slot's own or a cell's -/
def varL (ρ : Rho) (C : CM) (i : Nat) (P : List D → Prop) : Prop := match ρ[i]? with
  | some (some (.own xs)) => P xs
  | some (some (.dat (.ref a))) => ∃ xs, C a = some (.lst xs) ∧ P xs
  | _ => False
/-- a slot's value: an own list is let go -/
def varM (ρ : Rho) (i : Nat) (P : D → Rho → Prop) : Prop := match ρ[i]? with
  | some (some (.own xs)) => P (.lst xs) (ρ.set i (some (.dat (.lst xs))))
  | some (some (.dat d)) => P d ρ
  | _ => False

/-- values by written keys -/
def keyed {α : Type} : List String → List α → List (L2.Key × α)
  | k :: ks, x :: xs => (Sum.inr (Str.ofString k), x) :: keyed ks xs
  | _, _ => []
/-- what a dict has at a key -/
def dctAt (kvs : List (L2.Key × D)) (k : L2.Key) : Option D := (kvs.find? fun kv => decide (kv.1 = k)).map (·.2)
def dctPut (kvs : List (L2.Key × D)) (k : L2.Key) (d : D) : List (L2.Key × D) :=
  if (kvs.any fun kv => decide (kv.1 = k)) = true then kvs.map (fun kv => if kv.1 = k then (kv.1, d) else kv) else kvs ++ [(k, d)]
/-- the turns of a comprehension: bt binds the target and asks the element (none: passed over) -/
def compGo (turn : D → CM → (Option D → CM → Prop) → Prop) : List D → List D → CM → (List D → CM → Prop) → Prop
  | [], acc, C, P => P acc C
  | d :: ds, acc, C, P => turn d C fun o C' => match o with
    | some y => acc.length < sizeLine ∧ compGo turn ds (acc ++ [y]) C' P
    | none => compGo turn ds acc C' P
/-- .. over a cell's numbers, that stay as they are meanwhile -/
def compGoC (a : Addr) (ns : List Int) (turn : D → CM → (Option D → CM → Prop) → Prop) : List Int → List D → CM → (List D → CM → Prop) → Prop
  | [], acc, C, P => C a = some (.lst (ns.map .int)) ∧ P acc C
  | d :: ds, acc, C, P => C a = some (.lst (ns.map .int)) ∧ turn (.int d) C fun o C' => match o with
    | some y => acc.length < sizeLine ∧ compGoC a ns turn ds (acc ++ [y]) C' P
    | none => compGoC a ns turn ds acc C' P
/-- what a dict of numbers by texts gives of anything -/
def ggetD (kvs : List (String × Int)) (s : Str) : D := match (kvs.find? fun kv => decide (Str.ofString kv.1 = s)) with
  | some kv => .int kv.2
  | none => .non
mutual
def denE (G : Ctx) : E → Rho → CM → (D → Rho → CM → Prop) → Prop
  | .var i, ρ, C, P => varD ρ i fun d => P d ρ C
  | .mv i, ρ, C, P => varM ρ i fun d ρ1 => P d ρ1 C
  | .non, ρ, C, P => P .non ρ C
  | .bl b, ρ, C, P => P (.bl b) ρ C
  | .int i, ρ, C, P => P (.int i) ρ C
  | .str s, ρ, C, P => P (.str (Str.ofString s)) ρ C
  | .con _ i, ρ, C, P => P (.int i) ρ C
  | .cns _ s, ρ, C, P => P (.str (Str.ofString s)) ρ C
  | .bin o a b, ρ, C, P => denE G a ρ C fun x ρ1 C1 => denE G b ρ1 C1 fun y ρ2 C2 => binR o x y fun d => P d ρ2 C2
  | .neg a, ρ, C, P => denE G a ρ C fun x ρ1 C1 => match x with
    | .int i => P (.int (-i)) ρ1 C1
    | _ => False
  | .cmp o a b, ρ, C, P => denE G a ρ C fun x ρ1 C1 => denE G b ρ1 C1 fun y ρ2 C2 => cmpR o x y fun b => P (.bl b) ρ2 C2
  | .chn o o' a b c, ρ, C, P => denE G a ρ C fun x ρ1 C1 => denE G b ρ1 C1 fun y ρ2 C2 => cmpR o x y fun k =>
      if k = true then denE G c ρ2 C2 fun z ρ3 C3 => cmpR o' y z fun k' => P (.bl k') ρ3 C3 else P (.bl false) ρ2 C2
  | .chn3 o o' o'' a b c d, ρ, C, P => denE G a ρ C fun x ρ1 C1 => denE G b ρ1 C1 fun y ρ2 C2 => cmpR o x y fun k =>
      if k = true then denE G c ρ2 C2 fun z ρ3 C3 => cmpR o' y z fun k' => if k' = true then denE G d ρ3 C3 fun u ρ4 C4 => cmpR o'' z u fun k'' => P (.bl k'') ρ4 C4 else P (.bl false) ρ3 C3 else P (.bl false) ρ2 C2
  | .dlk kvs a, ρ, C, P => denE G a ρ C fun x ρ1 C1 => match x with
    | .str s => ∃ y, dlkAt kvs s = some (.str y) ∧ P (.str y) ρ1 C1
    | _ => False
  | .and a b, ρ, C, P => denE G a ρ C fun x ρ1 C1 => match x with
    | .bl k => if k = true then denE G b ρ1 C1 P else P (.bl false) ρ1 C1
    | _ => False
  | .or a b, ρ, C, P => denE G a ρ C fun x ρ1 C1 => match x with
    | .bl k => if k = true then P (.bl true) ρ1 C1 else denE G b ρ1 C1 P
    | _ => False
  | .not a, ρ, C, P => denE G a ρ C fun x ρ1 C1 => match x with
    | .bl k => P (.bl (!k)) ρ1 C1
    | _ => False
  | .ife t a b, ρ, C, P => denT G t ρ C fun k ρ1 C1 => if k = true then denE G a ρ1 C1 P else denE G b ρ1 C1 P
  | .tup es, ρ, C, P => denEs G es ρ C fun ds ρ1 C1 => ds.length ≤ sizeLine ∧ P (.tup ds) ρ1 C1
  | .frz l, ρ, C, P => denL G l ρ C fun ds ρ1 C1 => P (.lst ds) ρ1 C1
  | .cel l, ρ, C, P => denL G l ρ C fun ds ρ1 C1 => ∀ a, C1 a = none → P (.ref a) ρ1 (fun b => if b = a then some (.lst ds) else C1 b)
  | .ix a b, ρ, C, P => denE G a ρ C fun x ρ1 C1 => denE G b ρ1 C1 fun y ρ2 C2 => itemR C2 x y fun d => P d ρ2 C2
  | .sl a lo hi, ρ, C, P => denE G a ρ C fun x ρ1 C1 => denO G lo ρ1 C1 fun l ρ2 C2 => denO G hi ρ2 C2 fun h ρ3 C3 => sliceR C3 x l h fun d => P d ρ3 C3
  | .rev a, ρ, C, P => denE G a ρ C fun x ρ1 C1 => revR x fun d => P d ρ1 C1
  | .call f es, ρ, C, P => denEs G es ρ C fun ds ρ1 C1 => G.Γ f ds C1 (fun d C2 => P d ρ1 C2) G.ex
  | .blt f es, ρ, C, P => denEs G es ρ C fun ds ρ1 C1 => bltR C1 f ds fun d => P d ρ1 C1
  | .isi a t, ρ, C, P => denE G a ρ C fun x ρ1 C1 => ∃ b, isTy t x = some b ∧ P (.bl b) ρ1 C1
  | .oix i b, ρ, C, P => varO ρ i fun xs => denE G b ρ C fun y ρ1 C1 => ρ1 = ρ ∧ itemR C1 (.lst xs) y fun d => P d ρ1 C1
  | .olen i, ρ, C, P => varO ρ i fun xs => P (.int xs.length) ρ C
  | .one i, ρ, C, P => varL ρ C i fun xs => (D.lst xs).Cmp ∧ P (.bl (!xs.isEmpty)) ρ C
  | .oem i, ρ, C, P => varL ρ C i fun xs => (D.lst xs).Cmp ∧ P (.bl xs.isEmpty) ρ C
  | .lne a, ρ, C, P => denE G a ρ C fun x ρ1 C1 => ∃ xs, lstD C1 x = some xs ∧ P (.bl (!xs.isEmpty)) ρ1 C1
  | .leq a, ρ, C, P => denE G a ρ C fun x ρ1 C1 => ∃ xs, lstD C1 x = some xs ∧ P (.bl xs.isEmpty) ρ1 C1
  | .cne a, ρ, C, P => denE G a ρ C fun x ρ1 C1 => ∃ xs, lstD C1 x = some xs ∧ (D.lst xs).Cmp ∧ P (.bl (!xs.isEmpty)) ρ1 C1
  | .ceq a, ρ, C, P => denE G a ρ C fun x ρ1 C1 => ∃ xs, lstD C1 x = some xs ∧ (D.lst xs).Cmp ∧ P (.bl xs.isEmpty) ρ1 C1
  | .opop i, ρ, C, P => varO ρ i fun xs => ∃ y, xs[xs.length - 1]? = some y ∧ P y (ρ.set i (some (.own xs.dropLast))) C
  | .cpop o, ρ, C, P => denE G o ρ C fun x ρ1 C1 => match x with
    | .ref a => ∃ xs y, C1 a = some (.lst xs) ∧ xs[xs.length - 1]? = some y ∧ P y ρ1 (fun b => if b = a then some (.lst xs.dropLast) else C1 b)
    | _ => False
  | .cpopA o k, ρ, C, P => denE G o ρ C fun x ρ1 C1 => match x with
    | .ref a => ∃ xs0, C1 a = some (.lst xs0) ∧ denE G k ρ1 C1 fun y ρ2 C2 => match y with
      | .int i => ∃ xs j y, C2 a = some (.lst xs) ∧ -(2 ^ 63) ≤ i ∧ i < 2 ^ 63 ∧ seqIndex? i xs.length = some j ∧ xs[j]? = some y ∧ P y ρ2 (fun b => if b = a then some (.lst (xs.eraseIdx j)) else C2 b)
      | _ => False
    | _ => False
  | .celd ks es, ρ, C, P => denEs G es ρ C fun ds ρ1 C1 => ((keyed ks ds).map (·.1)).Nodup ∧ ∀ a, C1 a = none → P (.ref a) ρ1 (fun b => if b = a then some (.dct (keyed ks ds)) else C1 b)
  | .dix a k, ρ, C, P => denE G a ρ C fun x ρ1 C1 => match x with
    | .ref p => ∃ kvs d, C1 p = some (.dct kvs) ∧ dctAt kvs (Sum.inr (Str.ofString k)) = some d ∧ P d ρ1 C1
    | _ => False
  | .edic, ρ, C, P => P .dic ρ C
  | .ndic _ a, ρ, C, P => denE G a ρ C fun _ ρ1 C1 => P .dic ρ1 C1
  | .mxo k a b, ρ, C, P => denE G a ρ C fun x ρ1 C1 => denE G b ρ1 C1 fun y ρ2 C2 => ∃ xs ns, seqD C2 x = some xs ∧ intsOf xs = some ns ∧ P (if ns = [] then y else .int (if k = true then maxI ns else minI ns)) ρ2 C2
  | .gget _ kvs a, ρ, C, P => denE G a ρ C fun x ρ1 C1 => match x with
    | .str s => P (ggetD kvs s) ρ1 C1
    | _ => False
  | .upr a, ρ, C, P => denE G a ρ C fun x ρ1 C1 => match x with
    | .str s => s.length ≤ 5592405 ∧ P (.str (Txt.upper s)) ρ1 C1
    | _ => False
  | .orv a b, ρ, C, P => denE G a ρ C fun x ρ1 C1 => truD x fun k => if k = true then P x ρ1 C1 else denE G b ρ1 C1 P
  | .indx a b, ρ, C, P => denE G a ρ C fun x ρ1 C1 => match x with
    | .lst xs => denE G b ρ1 C1 fun y ρ2 C2 => (D.lst xs).Cmp ∧ y.Cmp ∧ ∃ j, firstAt y xs = some j ∧ P (.int (j : Nat)) ρ2 C2
    | _ => False
def denT (G : Ctx) : T → Rho → CM → (Bool → Rho → CM → Prop) → Prop
  | .and a b, ρ, C, P => denT G a ρ C fun k ρ1 C1 => if k = true then denT G b ρ1 C1 P else P false ρ1 C1
  | .or a b, ρ, C, P => denT G a ρ C fun k ρ1 C1 => if k = true then P true ρ1 C1 else denT G b ρ1 C1 P
  | .not a, ρ, C, P => denT G a ρ C fun k ρ1 C1 => P (!k) ρ1 C1
  | .cmp o a b, ρ, C, P => denE G a ρ C fun x ρ1 C1 => denE G b ρ1 C1 fun y ρ2 C2 => cmpR o x y fun b => P b ρ2 C2
  | .chn o o' a b c, ρ, C, P => denE G a ρ C fun x ρ1 C1 => denE G b ρ1 C1 fun y ρ2 C2 => cmpR o x y fun k =>
      if k = true then denE G c ρ2 C2 fun z ρ3 C3 => cmpR o' y z fun k' => P k' ρ3 C3 else P false ρ2 C2
  | .chn3 o o' o'' a b c d, ρ, C, P => denE G a ρ C fun x ρ1 C1 => denE G b ρ1 C1 fun y ρ2 C2 => cmpR o x y fun k =>
      if k = true then denE G c ρ2 C2 fun z ρ3 C3 => cmpR o' y z fun k' => if k' = true then denE G d ρ3 C3 fun u ρ4 C4 => cmpR o'' z u fun k'' => P k'' ρ4 C4 else P false ρ3 C3 else P false ρ2 C2
  | .one i, ρ, C, P => varL ρ C i fun xs => (D.lst xs).Cmp ∧ P (!xs.isEmpty) ρ C
  | .oem i, ρ, C, P => varL ρ C i fun xs => (D.lst xs).Cmp ∧ P xs.isEmpty ρ C
  | .tne a, ρ, C, P => denE G a ρ C fun x ρ1 C1 => match x with | .tup xs => P (!xs.isEmpty) ρ1 C1 | _ => False
  | .teq a, ρ, C, P => denE G a ρ C fun x ρ1 C1 => match x with | .tup xs => P xs.isEmpty ρ1 C1 | _ => False
  | .lne a, ρ, C, P => denE G a ρ C fun x ρ1 C1 => ∃ xs, lstD C1 x = some xs ∧ P (!xs.isEmpty) ρ1 C1
  | .leq a, ρ, C, P => denE G a ρ C fun x ρ1 C1 => ∃ xs, lstD C1 x = some xs ∧ P xs.isEmpty ρ1 C1
  | .cne a, ρ, C, P => denE G a ρ C fun x ρ1 C1 => ∃ xs, lstD C1 x = some xs ∧ (D.lst xs).Cmp ∧ P (!xs.isEmpty) ρ1 C1
  | .ceq a, ρ, C, P => denE G a ρ C fun x ρ1 C1 => ∃ xs, lstD C1 x = some xs ∧ (D.lst xs).Cmp ∧ P xs.isEmpty ρ1 C1
  | .val e, ρ, C, P => denE G e ρ C fun d ρ1 C1 => truD d fun b => P b ρ1 C1
def denEs (G : Ctx) : Es → Rho → CM → (List D → Rho → CM → Prop) → Prop
  | .nil, ρ, C, P => P [] ρ C
  | .cons e es, ρ, C, P => denE G e ρ C fun x ρ1 C1 => denEs G es ρ1 C1 fun xs ρ2 C2 => P (x :: xs) ρ2 C2
def denO (G : Ctx) : O → Rho → CM → (Option Int → Rho → CM → Prop) → Prop
  | .no, ρ, C, P => P none ρ C
  | .yes e, ρ, C, P => denE G e ρ C fun x ρ1 C1 => match x with
    | .int i => P (some i) ρ1 C1
    | _ => False
def denC (G : Ctx) : Oc → Rho → CM → (Bool → Rho → CM → Prop) → Prop
  | .no, ρ, C, P => P true ρ C
  | .yes e, ρ, C, P => denT G e ρ C P
def denL (G : Ctx) : L → Rho → CM → (List D → Rho → CM → Prop) → Prop
  | .lit es, ρ, C, P => denEs G es ρ C fun ds ρ1 C1 => ds.length ≤ sizeLine ∧ P ds ρ1 C1
  | .comp own elt tg it c, ρ, C, P => denI G it ρ C fun ds ρ1 C1 =>
      compGo (fun d C2 K => bindT tg d (wipeR ρ1 own) fun ρ2 => denC G c ρ2 C2 fun b ρ3 C3 => ρ3 = ρ2 ∧
        if b = true then denE G elt ρ3 C3 fun y ρ4 C4 => ρ4 = ρ2 ∧ K (some y) C4 else K none C3) ds [] C1 fun acc C4 => P acc ρ1 C4
  | .compc own elt tg e c, ρ, C, P => denE G e ρ C fun x ρ1 C1 => match x with
    | .ref a => ∃ ns : List Int, compGoC a ns (fun d C2 K => bindT tg d (wipeR ρ1 own) fun ρ2 => denC G c ρ2 C2 fun b ρ3 C3 => ρ3 = ρ2 ∧
        if b = true then denE G elt ρ3 C3 fun y ρ4 C4 => ρ4 = ρ2 ∧ K (some y) C4 else K none C3) ns [] C1 fun acc C4 => P acc ρ1 C4
    | _ => False
  | .list e, ρ, C, P => denE G e ρ C fun x ρ1 C1 => match x with
    | .tup xs => P xs ρ1 C1
    | .lst xs => P xs ρ1 C1
    | _ => False
  | .srt e, ρ, C, P => denE G e ρ C fun x ρ1 C1 => match x with
    | .lst xs => ∃ ns, intsOf xs = some ns ∧ P ((sortI ns).map D.int) ρ1 C1
    | _ => False
  | .srr e, ρ, C, P => denE G e ρ C fun x ρ1 C1 => match x with
    | .lst xs => ∃ ns, intsOf xs = some ns ∧ P ((sortI ns).reverse.map D.int) ρ1 C1
    | _ => False
  | .lrg1 a, ρ, C, P => denE G a ρ C fun x ρ1 C1 => match x with
    | .int j => RgOk 0 j ∧ P (rangeD 0 1 (j - 0).toNat) ρ1 C1
    | _ => False
  | .lrg2 a b, ρ, C, P => denE G a ρ C fun x ρ1 C1 => denE G b ρ1 C1 fun y ρ2 C2 => match x, y with
    | .int i, .int j => RgOk i j ∧ P (rangeD i 1 (j - i).toNat) ρ2 C2
    | _, _ => False
  | .lrv a, ρ, C, P => denE G a ρ C fun x ρ1 C1 => ∃ xs, lstD C1 x = some xs ∧ P xs.reverse ρ1 C1
  | .ls2 a, ρ, C, P => denE G a ρ C fun x ρ1 C1 => ∃ xs, lstD C1 x = some xs ∧ P (xs.take (xs.length - 1)).reverse ρ1 C1
  | .rep a b, ρ, C, P => denE G a ρ C fun x ρ1 C1 => denE G b ρ1 C1 fun y ρ2 C2 => match x, y with
    | .lst xs, .int k => -(2 ^ 63) ≤ k ∧ k < 2 ^ 63 ∧ xs.length * k.toNat ≤ sizeLine ∧ P (List.replicate k.toNat xs).flatten ρ2 C2
    | _, _ => False
  | .cat a b, ρ, C, P => denE G a ρ C fun x ρ1 C1 => denE G b ρ1 C1 fun y ρ2 C2 => ∃ xs ys, lstD C2 x = some xs ∧ lstD C2 y = some ys ∧ xs.length + ys.length ≤ sizeLine ∧ P (xs ++ ys) ρ2 C2
  | .rvd a, ρ, C, P => denE G a ρ C fun x ρ1 C1 => ∃ xs, lstD C1 x = some xs ∧ P xs.reverse ρ1 C1
def denI (G : Ctx) : I → Rho → CM → (List D → Rho → CM → Prop) → Prop
  | .seq e, ρ, C, P => denE G e ρ C fun x ρ1 C1 => match x with
    | .tup xs => P xs ρ1 C1
    | .lst xs => P xs ρ1 C1
    | _ => False
  | .rng1 a, ρ, C, P => denE G a ρ C fun x ρ1 C1 => match x with
    | .int j => -(2 ^ 62) ≤ j ∧ j < 2 ^ 62 ∧ P (rangeD 0 1 j.toNat) ρ1 C1
    | _ => False
  | .rng2 a b, ρ, C, P => denE G a ρ C fun x ρ1 C1 => denE G b ρ1 C1 fun y ρ2 C2 => match x, y with
    | .int i, .int j => bnd i j ∧ P (rangeD i 1 (j - i).toNat) ρ2 C2
    | _, _ => False
  | .rng3 a b c, ρ, C, P => denE G a ρ C fun x ρ1 C1 => denE G b ρ1 C1 fun y ρ2 C2 => denE G c ρ2 C2 fun z ρ3 C3 => match x, y, z with
    | .int i, .int j, .int k => bnd i j ∧ k = -1 ∧ P (rangeD i k (i - j).toNat) ρ3 C3
    | _, _, _ => False
  | .enum e, ρ, C, P => denE G e ρ C fun x ρ1 C1 => match x with
    | .tup xs => P (enumD 0 xs) ρ1 C1
    | .lst xs => P (enumD 0 xs) ρ1 C1
    | _ => False
  | .zip a b, ρ, C, P => denE G a ρ C fun x ρ1 C1 => denE G b ρ1 C1 fun y ρ2 C2 => ∃ xs ys, sqD x = some xs ∧ sqD y = some ys ∧ P (zipD xs ys) ρ2 C2
  | .zip3 a b c, ρ, C, P => denE G a ρ C fun x ρ1 C1 => denE G b ρ1 C1 fun y ρ2 C2 => denE G c ρ2 C2 fun z ρ3 C3 => ∃ xs ys zs, sqD x = some xs ∧ sqD y = some ys ∧ sqD z = some zs ∧ P (zip3D xs ys zs) ρ3 C3
  | .rvs e, ρ, C, P => denE G e ρ C fun x ρ1 C1 => match x with
    | .tup xs => P xs.reverse ρ1 C1
    | .lst xs => P xs.reverse ρ1 C1
    | _ => False
  | .rvr a b, ρ, C, P => denE G a ρ C fun x ρ1 C1 => denE G b ρ1 C1 fun y ρ2 C2 => match x, y with
    | .int i, .int j => bnd i j ∧ P (rangeD (i + (((j - i).toNat : Nat) : Int) - 1) (-1) (j - i).toNat) ρ2 C2
    | _, _ => False
  | .rvr1 a, ρ, C, P => denE G a ρ C fun x ρ1 C1 => match x with
    | .int j => bnd 0 j ∧ P (rangeD (0 + (((j - 0).toNat : Nat) : Int) - 1) (-1) (j - 0).toNat) ρ1 C1
    | _ => False
end

structure AEnds where
  nx : Rho → CM → Prop
  rt : D → CM → Prop
  bk : Rho → CM → Prop := fun _ _ => False
  ct : Rho → CM → Prop := fun _ _ => False

def forGo (tg : Tg) (body : AEnds → Rho → CM → Prop) (A : AEnds) : List D → Rho → CM → Prop
  | [], ρ, C => A.nx ρ C
  | d :: ds, ρ, C => bindT tg d ρ fun ρ1 => body { A with nx := forGo tg body A ds, ct := forGo tg body A ds, bk := A.nx } ρ1 C
/-- .. over a cell's numbers, that stay as they are meanwhile -/
def forGoC (a : Addr) (ns : List Int) (tg : Tg) (body : AEnds → Rho → CM → Prop) (A : AEnds) : List Int → Rho → CM → Prop
  | [], ρ, C => C a = some (.lst (ns.map .int)) ∧ A.nx ρ C
  | d :: ds, ρ, C => C a = some (.lst (ns.map .int)) ∧ bindT tg (.int d) ρ fun ρ1 => body { A with nx := forGoC a ns tg body A ds, ct := forGoC a ns tg body A ds, bk := A.nx } ρ1 C
def whlGo (t : Rho → CM → (Bool → Rho → CM → Prop) → Prop) (body : AEnds → Rho → CM → Prop) (A : AEnds) : Nat → Rho → CM → Prop
  | 0, _, _ => False
  | n + 1, ρ, C => t ρ C fun b ρ1 C1 => if b = true then body { A with nx := whlGo t body A n, ct := whlGo t body A n, bk := A.nx } ρ1 C1 else A.nx ρ1 C1

mutual
def denS (G : Ctx) : S → AEnds → Rho → CM → Prop
  | .set i e, A, ρ, C => denE G e ρ C fun d ρ1 C1 => A.nx (ρ1.set i (some (.dat d))) C1
  | .own i l, A, ρ, C => denL G l ρ C fun ds ρ1 C1 => A.nx (ρ1.set i (some (.own ds))) C1
  | .setF i l, A, ρ, C => denL G l ρ C fun ds ρ1 C1 => A.nx (ρ1.set i (some (.dat (.lst ds)))) C1
  | .unp tg e, A, ρ, C => denE G e ρ C fun d ρ1 C1 => bindT tg d ρ1 fun ρ2 => A.nx ρ2 C1
  | .par2 i j es, A, ρ, C => denEs G es ρ C fun ds ρ1 C1 => match ds with
    | [d, e] => A.nx ((ρ1.set i (some (.dat d))).set j (some (.dat e))) C1
    | _ => False
  | .par3 i j l es, A, ρ, C => denEs G es ρ C fun ds ρ1 C1 => match ds with
    | [d, e, f] => A.nx (((ρ1.set i (some (.dat d))).set j (some (.dat e))).set l (some (.dat f))) C1
    | _ => False
  | .aug i o e, A, ρ, C => varD ρ i fun x => denE G e ρ C fun y ρ1 C1 => match o, x, y with
    | .add, .int a, .int b => A.nx (ρ1.set i (some (.dat (.int (a + b))))) C1
    | .sub, .int a, .int b => A.nx (ρ1.set i (some (.dat (.int (a - b))))) C1
    | _, _, _ => False
  | .app i e, A, ρ, C => varO ρ i fun _ => denE G e ρ C fun d ρ1 C1 => varO ρ1 i fun xs => xs.length < sizeLine ∧ A.nx (ρ1.set i (some (.own (xs ++ [d])))) C1
  | .oset i k e, A, ρ, C => denE G e ρ C fun d ρ1 C1 => varO ρ1 i fun _ => denE G k ρ1 C1 fun x ρ2 C2 => varO ρ2 i fun xs => match x with
    | .int j => ∃ n, ixN xs.length j = some n ∧ A.nx (ρ2.set i (some (.own (xs.set n d)))) C2
    | _ => False
  | .oaug i k o e, A, ρ, C => varO ρ i fun _ => denE G k ρ C fun x ρ1 C1 => varO ρ1 i fun xs => match x with
    | .int j => ∃ n y, ixN xs.length j = some n ∧ xs[n]? = some (.int y) ∧ denE G e ρ1 C1 fun z ρ2 C2 => ρ2 = ρ1 ∧ match o, z with
      | .add, .int u => A.nx (ρ2.set i (some (.own (xs.set n (.int (y + u)))))) C2
      | .sub, .int u => A.nx (ρ2.set i (some (.own (xs.set n (.int (y - u)))))) C2
      | _, _ => False
    | _ => False
  | .ext i e, A, ρ, C => varO ρ i fun _ => denE G e ρ C fun d ρ1 C1 => varO ρ1 i fun xs => match d with
    | .lst ys => xs.length + ys.length ≤ sizeLine ∧ A.nx (ρ1.set i (some (.own (xs ++ ys)))) C1
    | _ => False
  | .csub o k e, A, ρ, C => denE G e ρ C fun d ρ1 C1 => denE G o ρ1 C1 fun x ρ2 C2 => denE G k ρ2 C2 fun y ρ3 C3 => match x, y with
    | .ref a, .int j => ∃ xs n, C3 a = some (.lst xs) ∧ ixN xs.length j = some n ∧ A.nx ρ3 (fun b => if b = a then some (.lst (xs.set n d)) else C3 b)
    | _, _ => False
  | .capp o e, A, ρ, C => denE G o ρ C fun x ρ1 C1 => match x with
    | .ref a => ∃ xs0, C1 a = some (.lst xs0) ∧ denE G e ρ1 C1 fun d ρ2 C2 => ∃ xs, C2 a = some (.lst xs) ∧ xs.length < sizeLine ∧ A.nx ρ2 (fun b => if b = a then some (.lst (xs ++ [d])) else C2 b)
    | _ => False
  | .cins o k e, A, ρ, C => denE G o ρ C fun x ρ1 C1 => match x with
    | .ref a => ∃ xs0, C1 a = some (.lst xs0) ∧ denE G k ρ1 C1 fun y ρ2 C2 => denE G e ρ2 C2 fun d ρ3 C3 => match y with
      | .int i => ∃ xs, C3 a = some (.lst xs) ∧ xs.length < sizeLine ∧ 0 ≤ i ∧ i < 2 ^ 63 ∧ A.nx ρ3 (fun b => if b = a then some (.lst (xs.take i.toNat ++ [d] ++ xs.drop i.toNat)) else C3 b)
      | _ => False
    | _ => False
  | .dset o k e, A, ρ, C => denE G e ρ C fun d ρ1 C1 => denE G o ρ1 C1 fun x ρ2 C2 => match x with
    | .ref p => ∃ kvs, C2 p = some (.dct kvs) ∧ kvs.length < sizeLine ∧ A.nx ρ2 (fun b => if b = p then some (.dct (dctPut kvs (Sum.inr (Str.ofString k)) d)) else C2 b)
    | _ => False
  | .exp e, A, ρ, C => denE G e ρ C fun _ ρ1 C1 => A.nx ρ1 C1
  | .ife t a b, A, ρ, C => denT G t ρ C fun k ρ1 C1 => if k = true then denSs G a A ρ1 C1 else denSs G b A ρ1 C1
  | .for tg it b, A, ρ, C => denI G it ρ C fun ds ρ1 C1 => forGo tg (denSs G b) A ds ρ1 C1
  | .forc tg e b, A, ρ, C => denE G e ρ C fun x ρ1 C1 => match x with
    | .ref a => ∃ ns : List Int, forGoC a ns tg (denSs G b) A ns ρ1 C1
    | _ => False
  | .whl t b, A, ρ, C => ∃ n, whlGo (denT G t) (denSs G b) A n ρ C
  | .ret e, A, ρ, C => denE G e ρ C fun d _ C1 => A.rt d C1
  | .ret0, A, _, C => A.rt .non C
  | .pass, A, ρ, C => A.nx ρ C
  | .brk, A, ρ, C => A.bk ρ C
  | .cnt, A, ρ, C => A.ct ρ C
  | .nev, _, _, _ => False
def denSs (G : Ctx) : Ss → AEnds → Rho → CM → Prop
  | .nil, A, ρ, C => A.nx ρ C
  | .cons s ss, A, ρ, C => denS G s { A with nx := denSs G ss A } ρ C
end

/-- cells forgotten -/
def CM.Sub (C C' : CM) : Prop := ∀ a c, C a = some c → C' a = some c
/-- a call of a def -/
def denF (G : Ctx) (f : Def) (ds : List D) (C : CM) (P : D → CM → Prop) : Prop :=
  ds.length = f.ps ∧ denSs G f.body { nx := fun _ C' => ∃ C'', CM.Sub C'' C' ∧ P .non C'', rt := fun d C' => ∃ C'', CM.Sub C'' C' ∧ P d C'' } (ds.map (fun d => some (.dat d)) ++ List.replicate (f.ns - f.ps) none) C
/-- calls, so many deep -/
def Gm (tab : List (String × Def)) : Nat → Gam
  | 0 => fun _ _ _ _ _ => False
  | n + 1 => fun f ds C P ex => ∃ d, tab.lookup f = some d ∧ denF ⟨Gm tab n, ex⟩ d ds C P
end M61

set_option Elab.async false
set_option linter.all false
set_option autoImplicit false
set_option maxRecDepth 100000
/-! M3a: the operations, as the layer's rules have them. -/
namespace M61
open PySem PySem.Spec PyProof.Rows L2

/-- a two-place operation of abstract values -/
def lift2 (K : PySem.W.Frag) (r : D → D → (D → Prop) → Prop) : R2 := fun x y H Q => ∃ (F : Hp) (dx dy : D) (P : D → Prop), Same F H ∧ Rep K F x dx ∧ Rep K F y dy ∧ r dx dy P ∧
  ∀ d F' v H', Grow F H F' H' → Rep K F' v d → P d → Q v H'
def lift1 (K : PySem.W.Frag) (r : D → (D → Prop) → Prop) : V → Hp → VK → Prop := fun x H Q => ∃ (F : Hp) (dx : D) (P : D → Prop), Same F H ∧ Rep K F x dx ∧ r dx P ∧
  ∀ d F' v H', Grow F H F' H' → Rep K F' v d → P d → Q v H'
def liftN (K : PySem.W.Frag) (r : List D → (D → Prop) → Prop) : List V → Hp → VK → Prop := fun xs H Q => ∃ (F : Hp) (ds : List D) (P : D → Prop), Same F H ∧ Reps K F xs ds ∧ r ds P ∧
  ∀ d F' v H', Grow F H F' H' → Rep K F' v d → P d → Q v H'

theorem Rep.int_inv {K : PySem.W.Frag} {F : Hp} {v : V} {i : Int} (h : Rep K F v (.int i)) : v = .int i := by cases h; rfl
theorem Rep.bl_inv {K : PySem.W.Frag} {F : Hp} {v : V} {i : Bool} (h : Rep K F v (.bl i)) : v = .bl i := by cases h; rfl
theorem Rep.str_inv {K : PySem.W.Frag} {F : Hp} {v : V} {i : Str} (h : Rep K F v (.str i)) : v = .str i := by cases h; rfl
theorem Rep.non_inv {K : PySem.W.Frag} {F : Hp} {v : V} (h : Rep K F v .non) : v = .non := by cases h; rfl
theorem Rep.ref_inv {K : PySem.W.Frag} {F : Hp} {v : V} {a : Addr} (h : Rep K F v (.ref a)) : v = .ref a := by cases h; rfl
theorem Rep.tup_inv {K : PySem.W.Frag} {F : Hp} {v : V} {ds : List D} (h : Rep K F v (.tup ds)) : ∃ a xs, v = .ref a ∧ SqT K F a xs ∧ Reps K F xs ds := by cases h with | tup h r => exact ⟨_, _, rfl, h, r⟩
theorem Rep.lst_inv {K : PySem.W.Frag} {F : Hp} {v : V} {ds : List D} (h : Rep K F v (.lst ds)) : ∃ a xs, v = .ref a ∧ F a = some (HO.lst xs) ∧ Reps K F xs ds := by cases h with | lst h r => exact ⟨_, _, rfl, h, r⟩
theorem Rep.scr_inv {K : PySem.W.Frag} {F : Hp} {v : V} {ds : List D} (h : Rep K F v (.scr ds)) : ∃ a xs, v = .ref a ∧ SqL K F a xs ∧ Reps K F xs ds := by cases h with | scr h r => exact ⟨_, _, rfl, h, r⟩

mutual
theorem rep_dp {K : PySem.W.Frag} {F : Hp} : ∀ {v : V} {d : D}, Rep K F v d → d.pure = true → Dp K F v d.py
  | _, _, .non, _ => .non
  | _, _, .bl b, _ => .bl b
  | _, _, .int i, _ => .int i
  | _, _, .str x, _ => .str x
  | _, _, .tup h r, p => .tup h (reps_dp r p)
  | _, _, .lst h r, p => .lst (.of h) (reps_dp r p)
  | _, _, .scr h r, p => by cases p
  | _, _, .ref a, p => by cases p
theorem reps_dp {K : PySem.W.Frag} {F : Hp} : ∀ {vs : List V} {ds : List D}, Reps K F vs ds → D.pures ds = true → DpAll K F vs (D.pys ds)
  | _, _, .nil, _ => .nil
  | _, _, .cons r t, p => by
    have p' : D.pure _ = true ∧ D.pures _ = true := Bool.and_eq_true_iff.mp p
    exact .cons (rep_dp r p'.1) (reps_dp t p'.2)
end

theorem OpR.weak {X : Cx} {f : Value → Value → Sem Value} {r r' : R2} (h : OpR X f r) (k : ∀ x y H Q, r' x y H Q → r x y H Q) : OpR X f r' :=
  fun pins s σ H x y v u Q I rx ry q => h pins s σ H x y v u Q I rx ry (k _ _ _ _ q)
theorem CallR.weak {X : Cx} {f : Value} {r r' : List V → Hp → VK → Prop} (h : CallR X f r) (k : ∀ xs H Q, r' xs H Q → r xs H Q) : CallR X f r' :=
  fun pins s σ H xs us Q I rx q => h pins s σ H xs us Q I rx (k _ _ _ q)
theorem CallR.or {X : Cx} {f : Value} {r r' : List V → Hp → VK → Prop} (h : CallR X f r) (h' : CallR X f r') : CallR X f (fun xs H Q => r xs H Q ∨ r' xs H Q) :=
  fun pins s σ H xs us Q I rx q => q.elim (h pins s σ H xs us Q I rx) (h' pins s σ H xs us Q I rx)

section
variable {X : Cx}
def popOf : Bop → Operator
  | .add => .Add | .sub => .Sub | .mul => .Mult | .fdiv => .FloorDiv | .mod => .Mod | .pow => .Pow | .shl => .LShift

theorem catT_sound {F H : Hp} {x y : V} {xs ys : List D} {P : D → Prop} {Q : VK} (s : Same F H) (r1 : Rep X.K F x (.tup xs)) (r2 : Rep X.K F y (.tup ys)) (hz : xs.length + ys.length ≤ sizeLine) (p : P (.tup (xs ++ ys)))
    (k : ∀ d F' v H', Grow F H F' H' → Rep X.K F' v d → P d → Q v H') : rCatA X.K x y H Q := by
  obtain ⟨a, vs, rfl, ha, ra⟩ := r1.tup_inv
  obtain ⟨b, ws, rfl, hb, rb⟩ := r2.tup_inv
  refine ⟨a, b, vs, ws, rfl, rfl, sqT_same s ha, sqT_same s hb, ?_, fun e => ?_, fun e e2 => ?_, fun e e2 q hq => ?_⟩
  · rw [ra.length, rb.length]; exact hz
  · subst e
    cases ra
    exact k _ F _ H (Grow.refl s) (.tup hb rb) p
  · subst e2
    cases rb
    rw [List.append_nil] at p
    exact k _ F _ H (Grow.refl s) (.tup ha ra) p
  · have g := Grow.new (o := HO.tup (vs ++ ws)) s hq
    exact k _ _ _ _ g (.tup (SqT.of upd_same) ((ra.append rb).mono g.ff)) p


theorem tuple_mulSame (l : Addr) (items : Array Value) (n : Nat) (dd : Option Addr) (sl : Array (Option Value)) (x : Int) (u : Tok) (c0 : (decide (x < -(2 ^ 63)) || decide (x ≥ 2 ^ 63)) = false) (c1 : (items.isEmpty || x == 1) = true) :
    Meets (Builtin.«tuple.__mul__» ⟨[.ref l, .int x u], []⟩) (fun _ R s => s.heap.get? l = some { cls := .type "tuple", dict := dd, data := .seq items n, slots := sl } ∧
      R (.ok (.ret (Value.ref l))) s) :=
  .of_wp fun prog w A R s h => by
    obtain ⟨hp, g, d, tk, os⟩ := s
    obtain ⟨hl, h⟩ := h
    have f1 := AutoSeq1.idx_int
    wp_walk using wpAny_loadPart' hl
    repeat (first
      | (refine wpAny_ite_false (decide_eq_false (by rw [c0]; exact Bool.false_ne_true)) ?_; wp_walk using wpAny_loadPart' hl)
      | (refine wpAny_ite_true (decide_eq_true (by rw [c1])) ?_; wp_walk using wpAny_loadPart' hl))
    exact ⟨_, rfl, h⟩
theorem tuple_mulNone (l : Addr) (items : Array Value) (n : Nat) (dd : Option Addr) (sl : Array (Option Value)) (x : Int) (u : Tok) (c0 : (decide (x < -(2 ^ 63)) || decide (x ≥ 2 ^ 63)) = false) (c1 : (items.isEmpty || x == 1) = false) (c2 : (decide (x ≤ 0) || items.isEmpty) = true) :
    Meets (Builtin.«tuple.__mul__» ⟨[.ref l, .int x u], []⟩) (fun _ R s => s.heap.get? l = some { cls := .type "tuple", dict := dd, data := .seq items n, slots := sl } ∧
      R (.ok (.ret (Value.ref s.heap.objs.size))) { s with heap := s.heap.push { cls := Value.type "tuple", data := Data.seq #[] }, toks := s.toks }) :=
  .of_wp fun prog w A R s h => by
    obtain ⟨hp, g, d, tk, os⟩ := s
    obtain ⟨hl, h⟩ := h
    have f1 := AutoSeq1.idx_int
    wp_walk using wpAny_loadPart' hl
    repeat (first
      | (refine wpAny_ite_false (decide_eq_false (by rw [c0]; exact Bool.false_ne_true)) ?_; wp_walk using wpAny_loadPart' hl)
      | (refine wpAny_ite_false (decide_eq_false (by rw [c1]; exact Bool.false_ne_true)) ?_; wp_walk using wpAny_loadPart' hl)
      | (refine wpAny_ite_true (decide_eq_true (by rw [c2])) ?_; wp_walk using wpAny_loadPart' hl))
    exact ⟨_, rfl, h⟩
def rRepAny (K : PySem.W.Frag) : R2 := fun x y H Q => ∃ l k xs, x = .ref l ∧ y = .int k ∧ SqT K H l xs ∧ -1000 ≤ k ∧ k ≤ 1000 ∧ xs.length ≤ 1000 ∧
  ((xs = [] ∨ k = 1) → Q (.ref l) H) ∧ (xs ≠ [] → k ≠ 1 → ∀ p, H p = none → Q (.ref p) (upd H p (.tup (List.replicate k.toNat xs).flatten)))
theorem op_repAny : OpR X (binaryOp .Mult) (rRepAny X.K) := by
  intro pins s σ H x y v u Q I rx ry h
  obtain ⟨l, k, xs, rfl, rfl, hT, h1, h2, hz, q1, q2⟩ := h
  by_cases e : xs = [] ∨ k = 1
  · cases rx
    obtain ⟨t, rfl⟩ := ry
    obtain ⟨its, r, ⟨⟨cls, dd, data, sl⟩, ho, hc, n, hd⟩, hs⟩ := I.tuple hT
    simp only at hc hd
    subst hc hd
    have hle : its.length = xs.length := r.length.symm
    have c0 : (decide (k < -(2 ^ 63)) || decide (k ≥ 2 ^ 63)) = false := by
      rw [decide_eq_false (by omega), decide_eq_false (by omega)] <;> rfl
    have c1 : (its.toArray.isEmpty || k == 1) = true := by
      rcases e with e | e
      · rw [e] at hle
        rw [List.eq_nil_of_length_eq_zero hle]; rfl
      · rw [e]; simp
    refine wpAny_binaryOp_repeat_ref (T := "tuple") (U := "int") (by decide) ⟨_, ho, rfl⟩ (fun s' => typeIs_int s' k t) noFill_tuple_mul F.fills_int_mul F.slot_int_rmul repeat_tuple F.slot_int_index.lookup
      (call_meets F.slot_int_rmul (typeIs_int s k t) F.entry_int_rmul (F.args_int_rmul_2 _ _) (int_rmul_tuple k t l its.toArray n dd sl)
        ⟨ho, rfl, ⟨_, ho, rfl⟩, call_meets F.slot_tuple_mul ⟨_, ho, rfl⟩ F.entry_tuple_mul (F.args_tuple_mul_2 _ _) (tuple_mulSame l its.toArray n dd sl k t c0 c1) ⟨ho, ?_⟩⟩)
    exact ⟨.ref l, H, I, rfl, q1 e⟩
  · have e1 : xs ≠ [] := fun z => e (.inl z)
    have e2 : k ≠ 1 := fun z => e (.inr z)
    by_cases h0 : 2 ≤ k
    · exact op_repT pins s σ H _ _ v u Q I rx ry ⟨l, k, xs, rfl, rfl, hT, e1, h0, h2, hz, q2 e1 e2⟩
    · cases rx
      obtain ⟨t, rfl⟩ := ry
      obtain ⟨its, r, ⟨⟨cls, dd, data, sl⟩, ho, hc, n, hd⟩, hs⟩ := I.tuple hT
      simp only at hc hd
      subst hc hd
      have hle : its.length = xs.length := r.length.symm
      have hi : its.toArray.isEmpty = false := by
        cases its with
        | nil => exact absurd (List.eq_nil_of_length_eq_zero hle.symm) e1
        | cons a b => rfl
      have c0 : (decide (k < -(2 ^ 63)) || decide (k ≥ 2 ^ 63)) = false := by
        rw [decide_eq_false (by omega), decide_eq_false (by omega)] <;> rfl
      have c1 : (its.toArray.isEmpty || k == 1) = false := by
        rw [hi, Bool.false_or]
        exact beq_eq_false_iff_ne.mpr e2
      have c2 : (decide (k ≤ 0) || its.toArray.isEmpty) = true := by
        rw [decide_eq_true (by omega)]; rfl
      refine wpAny_binaryOp_repeat_ref (T := "tuple") (U := "int") (by decide) ⟨_, ho, rfl⟩ (fun s' => typeIs_int s' k t) noFill_tuple_mul F.fills_int_mul F.slot_int_rmul repeat_tuple F.slot_int_index.lookup
        (call_meets F.slot_int_rmul (typeIs_int s k t) F.entry_int_rmul (F.args_int_rmul_2 _ _) (int_rmul_tuple k t l its.toArray n dd sl)
          ⟨ho, rfl, ⟨_, ho, rfl⟩, call_meets F.slot_tuple_mul ⟨_, ho, rfl⟩ F.entry_tuple_mul (F.args_tuple_mul_2 _ _) (tuple_mulNone l its.toArray n dd sl k t c0 c1 c2) ⟨ho, ?_⟩⟩)
      have ek : k.toNat = 0 := by omega
      have q3 := q2 e1 e2
      rw [ek] at q3
      exact ⟨.ref s.heap.objs.size, _, I.laid (t' := s.toks) (o := .tup []) (fun b ob q => Heap.get?_push_of_some _ q) (Nat.le_refl _) ⟨by rw [sizeLine_eq]; decide, [], .nil, IsTup.new _ _⟩, rfl, q3 _ (I.hok.fresh (Nat.le_refl _))⟩

theorem op_addB : OpR X (binaryOp .Add) (fun x y H Q => ∃ (b : Bool) (j : Int), x = .bl b ∧ y = .int j ∧ Q (.int ((if b = true then (1 : Int) else 0) + j)) H) := by
  intro pins s σ H x y v u Q I rx ry h
  obtain ⟨b, j, rfl, rfl, q⟩ := h
  cases rx
  obtain ⟨t', rfl⟩ := ry
  exact IntBool.add_bool_int ⟨.int _, H, I.tok _, ⟨_, rfl⟩, q⟩
theorem op_subB : OpR X (binaryOp .Sub) (fun x y H Q => ∃ (b : Bool) (j : Int), x = .bl b ∧ y = .int j ∧ Q (.int ((if b = true then (1 : Int) else 0) - j)) H) := by
  intro pins s σ H x y v u Q I rx ry h
  obtain ⟨b, j, rfl, rfl, q⟩ := h
  cases rx
  obtain ⟨t', rfl⟩ := ry
  exact IntBool.sub_bool_int ⟨.int _, H, I.tok _, ⟨_, rfl⟩, q⟩
theorem s_bin (o : Bop) : OpR X (binaryOp (popOf o)) (lift2 X.K (binR o)) := by
  intro pins s σ H x y v u Q I rx ry ⟨F, dx, dy, P, sF, r1, r2, m, k⟩
  have fin : ∀ d v, Rep X.K F v d → P d → Q v H := fun d v r p => k d F v H (Grow.refl sF) r p
  cases o with
  | add =>
    unfold binR at m
    split at m
    all_goals first | (rename_i hh; cases hh; done) | skip
    · cases r1; cases r2; exact op_add pins s σ H _ _ v u Q I rx ry ⟨_, _, rfl, rfl, fin _ _ (.int _) m⟩
    · cases r1; cases r2; exact op_add_str pins s σ H _ _ v u Q I rx ry ⟨_, _, rfl, rfl, m.1, fin _ _ (.str _) m.2⟩
    · exact op_catA pins s σ H _ _ v u Q I rx ry (catT_sound sF r1 r2 m.1 m.2 k)
    · obtain ⟨a, vs, rfl, ha, ra⟩ := r1.lst_inv
      obtain ⟨b, ws, rfl, hb, rb⟩ := r2.lst_inv
      refine op_cat pins s σ H _ _ v u Q I rx ry ⟨a, b, vs, ws, rfl, rfl, sF _ _ ha, sF _ _ hb, by rw [ra.length, rb.length]; exact m.1, fun p hp => ?_⟩
      have g := Grow.new (o := HO.lst (vs ++ ws)) sF hp
      exact k _ _ _ _ g (.lst upd_same ((ra.append rb).mono g.ff)) m.2
    · cases r1; cases r2; exact op_addB pins s σ H _ _ v u Q I rx ry ⟨_, _, rfl, rfl, fin _ _ (.int _) m⟩
    · exact m.elim
  | sub =>
    unfold binR at m
    split at m
    all_goals first | (rename_i hh; cases hh; done) | skip
    · cases r1; cases r2; exact op_sub pins s σ H _ _ v u Q I rx ry ⟨_, _, rfl, rfl, fin _ _ (.int _) m⟩
    · cases r1; cases r2; exact op_subB pins s σ H _ _ v u Q I rx ry ⟨_, _, rfl, rfl, fin _ _ (.int _) m⟩
    · exact m.elim
  | mul =>
    unfold binR at m
    split at m
    all_goals first | (rename_i hh; cases hh; done) | skip
    · cases r1; cases r2; exact op_mul pins s σ H _ _ v u Q I rx ry ⟨_, _, rfl, rfl, m.1, fin _ _ (.int _) m.2⟩
    · rename_i xs0 k0 _
      obtain ⟨a, vs, rfl, ha, ra⟩ := r1.tup_inv
      cases r2
      obtain ⟨m1, m2, m3, m4⟩ := m
      refine op_repAny pins s σ H _ _ v u Q I rx ry ⟨a, _, vs, rfl, rfl, sqT_same sF ha, m1, m2, by rw [ra.length]; exact m3, fun e => ?_, fun e1 e2 p hp => ?_⟩
      · refine k _ F _ H (Grow.refl sF) (.tup ha ra) ?_
        rcases e with e | e
        · subst e
          cases ra
          have z : ∀ n : Nat, (List.replicate n ([] : List D)).flatten = [] := fun n => by induction n with
            | zero => rfl
            | succ n ih => rw [List.replicate_succ, List.flatten_cons, ih]; rfl
          rw [z] at m4; exact m4
        · rw [e] at m4
          have z : ∀ l : List D, (List.replicate (Int.toNat 1) l).flatten = l := fun l => List.append_nil l
          rw [z] at m4; exact m4
      · have g := Grow.new (o := HO.tup (List.replicate (Int.toNat k0) vs).flatten) sF hp
        exact k _ _ _ _ g (.tup (SqT.of upd_same) ((ra.flatten _).mono g.ff)) m4
    · rename_i xs0 k0 _
      obtain ⟨a, vs, rfl, ha, ra⟩ := r1.lst_inv
      cases r2
      obtain ⟨m1, m2, m3, m4⟩ := m
      refine op_rep pins s σ H _ _ v u Q I rx ry ⟨a, _, vs, rfl, rfl, sF _ _ ha, m1, m2, by rw [ra.length]; exact m3, fun p hp => ?_⟩
      have g := Grow.new (o := HO.lst (List.replicate (Int.toNat k0) vs).flatten) sF hp
      exact k _ _ _ _ g (.lst upd_same ((ra.flatten _).mono g.ff)) m4
    · exact m.elim
  | fdiv =>
    unfold binR at m
    split at m
    all_goals first | (rename_i hh; cases hh; done) | skip
    · cases r1; cases r2; exact op_fdiv pins s σ H _ _ v u Q I rx ry ⟨_, _, rfl, rfl, m.1, fin _ _ (.int _) m.2⟩
    · exact m.elim
  | mod =>
    unfold binR at m
    split at m
    all_goals first | (rename_i hh; cases hh; done) | skip
    · cases r1; cases r2; exact op_mod pins s σ H _ _ v u Q I rx ry ⟨_, _, rfl, rfl, m.1, fin _ _ (.int _) m.2⟩
    · exact m.elim
  | pow =>
    unfold binR at m
    split at m
    all_goals first | (rename_i hh; cases hh; done) | skip
    · cases r1; cases r2; exact op_pow pins s σ H _ _ v u Q I rx ry ⟨_, _, rfl, rfl, m.1, fin _ _ (.int _) m.2⟩
    · exact m.elim
  | shl =>
    unfold binR at m
    split at m
    all_goals first | (rename_i hh; cases hh; done) | skip
    · cases r1; cases r2; exact op_shl pins s σ H _ _ v u Q I rx ry ⟨_, _, rfl, rfl, m.1, fin _ _ (.int _) m.2⟩
    · exact m.elim
end
end M61

set_option Elab.async false
set_option linter.all false
set_option autoImplicit false
set_option maxRecDepth 100000
/-! M3b: comparisons, truth, items, slices, built-ins. -/
namespace M61
open PySem PySem.Spec PyProof.Rows L2
section
variable {X : Cx}
theorem reps_ints {K : PySem.W.Frag} {F : Hp} : ∀ {vs : List V} {ds : List D} {ns : List Int}, Reps K F vs ds → intsOf ds = some ns → vs = ns.map V.int
  | _, _, ns, .nil, h => by cases h; rfl
  | _, _, ns, .cons (d := d) (ds := ds) r t, h => by
    cases d <;> first | (cases h; done) | skip
    rename_i i
    cases r
    unfold intsOf at h
    cases e : intsOf ds with
    | none => rw [e] at h; cases h
    | some ms =>
      rw [e] at h
      cases h
      rw [reps_ints t e]; rfl
def copOf : Cop → CmpOp
  | .eq => .Eq | .ne => .NotEq | .lt => .Lt | .le => .LtE | .gt => .Gt | .ge => .GtE | .is => .Is | .isn => .IsNot | .inn => .In | .nin => .NotIn
theorem atI_getD {xs : List V} {ds : List D} {K : PySem.W.Frag} {F : Hp} (r : Reps K F xs ds) {i : Int} {d : D} (h : atI ds i = some d) : ∃ v, atI xs i = some v ∧ Rep K F v d := by
  unfold atI at h ⊢
  rw [r.length]
  cases e : ixN ds.length i with
  | none => rw [e] at h; cases h
  | some j =>
    rw [e] at h
    obtain ⟨v, hv, rv⟩ := r.getD (i := j) h
    exact ⟨v, hv, rv⟩
theorem flatV_of {K : PySem.W.Frag} {F : Hp} {v : V} {d : D} (r : Rep K F v d) (h : d.flat = true) : flatV v = true := by
  cases r <;> first | rfl | cases h
theorem eqV_of {K : PySem.W.Frag} {F : Hp} {v u : V} {d e : D} (r : Rep K F v d) (h : d.flat = true) (q : Rep K F u e) (h2 : e.flat = true) : eqV v u = d.eqv e := by
  cases r <;> cases q <;> first | (cases h; done) | (cases h2; done) | rfl
theorem flatAll_of {K : PySem.W.Frag} {F : Hp} : ∀ {vs : List V} {ds : List D}, Reps K F vs ds → ds.all D.flat = true → vs.all flatV = true
  | _, _, .nil, _ => rfl
  | _, _, .cons r t, h => by
    rw [List.all_cons, Bool.and_eq_true] at h ⊢
    exact ⟨flatV_of r h.1, flatAll_of t h.2⟩
theorem anyEq_of {K : PySem.W.Frag} {F : Hp} {u : V} {e : D} (q : Rep K F u e) (h2 : e.flat = true) : ∀ {vs : List V} {ds : List D}, Reps K F vs ds → ds.all D.flat = true → inV u vs = ds.any fun z => z.eqv e
  | _, _, .nil, _ => rfl
  | _, _, .cons r t, h => by
    rw [List.all_cons, Bool.and_eq_true] at h
    have ih := anyEq_of q h2 t h.2
    unfold inV at ih ⊢
    rw [List.any_cons, List.any_cons, ih, eqV_of r h.1 q h2]
theorem pys_any (d : D) : ∀ ds : List D, ((D.pys ds).any fun z => PyData.eqv z d.py) = ds.any fun z => z.eqv d
  | [] => rfl
  | x :: xs => by
    show (PyData.eqv x.py d.py || (D.pys xs).any fun z => PyData.eqv z d.py) = _
    rw [pys_any d xs]; rfl

theorem s_cmp (hr : Room 0 X.A) (o : Cop) : OpR X (compareOp (copOf o)) (lift2 X.K fun d e P => cmpR o d e fun b => P (.bl b)) := by
  intro pins s σ H x y v u Q I rx ry ⟨F, dx, dy, P, sF, r1, r2, m, k⟩
  have fin : ∀ b, P (.bl b) → Q (.bl b) H := fun b p => k (.bl b) F _ H (Grow.refl sF) (.bl b) p
  have hu : X.A.units + 64 < cLine := hr.units
  have hu2 : X.A.units + 65 < cLine := by have := hr.un; omega
  have r1' := r1.mono sF
  have r2' := r2.mono sF
  cases o with
  | eq =>
    obtain ⟨m1, m2, m3⟩ := m
    exact op_eqD hu pins s σ H _ _ v u Q I rx ry ⟨_, _, rep_dp r1' m1.1, rep_dp r2' m2.1, m1.2, m2.2, fin _ m3⟩
  | ne =>
    obtain ⟨m1, m2, m3⟩ := m
    exact op_neD hu pins s σ H _ _ v u Q I rx ry ⟨_, _, rep_dp r1' m1.1, rep_dp r2' m2.1, m1.2, m2.2, fin _ m3⟩
  | lt =>
    unfold cmpR at m
    split at m
    all_goals first | (rename_i hh; cases hh; done) | skip
    · cases r1; cases r2; exact op_lt pins s σ H _ _ v u Q I rx ry ⟨_, _, rfl, rfl, fin _ m⟩
    · obtain ⟨ns, ms, h1, h2, p⟩ := m
      obtain ⟨a, vs, rfl, ha, ra⟩ := r1'.tup_inv
      obtain ⟨b, ws, rfl, hb, rb⟩ := r2'.tup_inv
      have e1 := reps_ints ra h1
      have e2 := reps_ints rb h2
      subst e1 e2
      exact op_ltT (by omega) pins s σ H _ _ v u Q I rx ry ⟨_, _, _, _, rfl, rfl, ha, hb, fin _ p⟩
    · exact m.elim
  | le =>
    unfold cmpR at m
    split at m
    all_goals first | (rename_i hh; cases hh; done) | skip
    · cases r1; cases r2; exact op_le pins s σ H _ _ v u Q I rx ry ⟨_, _, rfl, rfl, fin _ m⟩
    · exact m.elim
  | gt =>
    unfold cmpR at m
    split at m
    all_goals first | (rename_i hh; cases hh; done) | skip
    · cases r1; cases r2; exact op_gt pins s σ H _ _ v u Q I rx ry ⟨_, _, rfl, rfl, fin _ m⟩
    · exact m.elim
  | ge =>
    unfold cmpR at m
    split at m
    all_goals first | (rename_i hh; cases hh; done) | skip
    · cases r1; cases r2; exact op_ge pins s σ H _ _ v u Q I rx ry ⟨_, _, rfl, rfl, fin _ m⟩
    · exact m.elim
  | is =>
    unfold cmpR at m
    split at m
    all_goals first | (rename_i hh; cases hh; done) | skip
    · cases r2
      refine op_isN pins s σ H _ _ v u Q I rx ry ⟨rfl, ?_⟩
      have e : ∀ {d : D}, Rep X.K F x d → decide (x = V.non) = d.isNon := fun r => by cases r <;> simp [D.isNon]
      rw [e r1]
      exact fin _ m
    · cases r1; cases r2; exact op_is_bl pins s σ H _ _ v u Q I rx ry ⟨_, _, rfl, rfl, fin _ m⟩
    · exact m.elim
  | isn =>
    unfold cmpR at m
    split at m
    all_goals first | (rename_i hh; cases hh; done) | skip
    · cases r2
      refine op_notN pins s σ H _ _ v u Q I rx ry ⟨rfl, ?_⟩
      have e : ∀ {d : D}, Rep X.K F x d → decide (x = V.non) = d.isNon := fun r => by cases r <;> simp [D.isNon]
      rw [e r1]
      exact fin _ m
    · cases r1; cases r2; exact op_isnot_bl pins s σ H _ _ v u Q I rx ry ⟨_, _, rfl, rfl, fin _ m⟩
    · exact m.elim
  | inn =>
    unfold cmpR at m
    split at m
    all_goals first | (rename_i hh; cases hh; done) | skip
    · obtain ⟨a, xs, rfl, ha, ra⟩ := r2.tup_inv
      refine op_in_seq pins s σ H _ _ v u Q I rx ry ⟨a, xs, rfl, .inr (sqT_same sF ha), flatV_of r1 m.1, flatAll_of ra m.2.1, ?_⟩
      simp only [Bool.false_eq_true, if_false]
      rw [anyEq_of r1 m.1 ra m.2.1]
      exact fin _ m.2.2
    · obtain ⟨a, xs, rfl, ha, ra⟩ := r2.lst_inv
      refine op_inD hu2 pins s σ H _ _ v u Q I rx ry ⟨_, _, rep_dp r1' m.1.1, rep_dp r2' m.2.1.1, m.1.2, m.2.1.2, ?_⟩
      rw [pys_any]
      exact fin _ m.2.2
    · cases r1; cases r2
      obtain ⟨c, rfl, m⟩ := m
      exact op_in_sign pins s σ H _ _ v u Q I rx ry ⟨c, _, rfl, rfl, fin _ m⟩
    · exact m.elim
  | nin =>
    unfold cmpR at m
    split at m
    all_goals first | (rename_i hh; cases hh; done) | skip
    · obtain ⟨a, xs, rfl, ha, ra⟩ := r2.tup_inv
      refine op_notIn_seq pins s σ H _ _ v u Q I rx ry ⟨a, xs, rfl, .inr (sqT_same sF ha), flatV_of r1 m.1, flatAll_of ra m.2.1, ?_⟩
      simp only [if_true]
      rw [anyEq_of r1 m.1 ra m.2.1]
      exact fin _ m.2.2
    · obtain ⟨a, xs, rfl, ha, ra⟩ := r2.lst_inv
      refine op_notInD hu2 pins s σ H _ _ v u Q I rx ry ⟨_, _, rep_dp r1' m.1.1, rep_dp r2' m.2.1.1, m.1.2, m.2.1.2, ?_⟩
      rw [pys_any]
      exact fin _ m.2.2
    · cases r1; cases r2
      obtain ⟨c, rfl, m⟩ := m
      exact op_notIn_sign pins s σ H _ _ v u Q I rx ry ⟨c, _, rfl, rfl, fin _ m⟩
    · exact m.elim

theorem reps_empty {K : PySem.W.Frag} {F : Hp} : ∀ {vs : List V} {ds : List D}, Reps K F vs ds → vs.isEmpty = ds.isEmpty
  | _, _, .nil => rfl
  | _, _, .cons _ _ => rfl
/-- truth -/
theorem tru_of {F H : Hp} {x : V} {d : D} {P : Bool → Prop} (sF : Same F H) (r : Rep X.K F x d) (m : truD d P) : ∃ k, TruV X.K x H k ∧ P k := by
  unfold truD at m
  split at m
  · cases r; exact ⟨_, rfl, m⟩
  · cases r; exact ⟨_, rfl, m⟩
  · cases r; exact ⟨_, rfl, m⟩
  · cases r; exact ⟨_, ⟨m.1, rfl⟩, m.2⟩
  · obtain ⟨a, xs, rfl, ha, ra⟩ := r.tup_inv
    refine ⟨_, .inr (.inl ⟨xs, sqT_same sF ha, rfl⟩), ?_⟩
    rw [reps_empty ra]; exact m
  · obtain ⟨a, xs, rfl, ha, ra⟩ := r.lst_inv
    refine ⟨_, .inl ⟨xs, .of (sF _ _ ha), rfl⟩, ?_⟩
    rw [reps_empty ra]; exact m
  · exact m.elim

/-- items -/
def liftI (K : PySem.W.Frag) : R2 := fun x y H Q => ∃ (F : Hp) (dx dy : D) (C : CM) (P : D → Prop), Cells K F H C ∧ Rep K F x dx ∧ Rep K F y dy ∧ itemR C dx dy P ∧ ∀ d v, Rep K F v d → P d → Q v H
theorem ix_or {X : Cx} : IxR X (liftI X.K) := by
  intro value slice pins s σ H x y v u Q I rx ry ⟨F, dx, dy, C, P, ce, r1, r2, m, k⟩ hs
  have sF := ce.fh
  unfold itemR at m
  split at m
  · cases r2
    obtain ⟨a, xs, rfl, ha, ra⟩ := r1.tup_inv
    obtain ⟨d, hd, p⟩ := m
    obtain ⟨w, hw, rw'⟩ := atI_getD ra hd
    exact ix_tup value slice pins s σ H _ _ v u Q I rx ry ⟨a, xs, _, w, rfl, rfl, sqT_same sF ha, hw, k d w rw' p⟩ hs
  · cases r2
    obtain ⟨a, xs, rfl, ha, ra⟩ := r1.lst_inv
    obtain ⟨d, hd, p⟩ := m
    obtain ⟨w, hw, rw'⟩ := atI_getD ra hd
    exact ix_list value slice pins s σ H _ _ v u Q I rx ry ⟨a, xs, _, w, rfl, rfl, .of (sF _ _ ha), hw, k d w rw' p⟩ hs
  · cases r1; cases r2
    obtain ⟨m1, c, hc, p⟩ := m
    exact ix_str value slice pins s σ H _ _ v u Q I rx ry ⟨_, _, c, rfl, rfl, m1, hc, k _ _ (.str _) p⟩ hs
  · cases r2
    obtain ⟨a, xs, rfl, ha, ra⟩ := r1.scr_inv
    obtain ⟨d, hd, p⟩ := m
    obtain ⟨w, hw, rw'⟩ := atI_getD ra hd
    exact ix_list value slice pins s σ H _ _ v u Q I rx ry ⟨a, xs, _, w, rfl, rfl, sqL_same sF ha, hw, k d w rw' p⟩ hs
  · rename_i a
    cases r1
    obtain ⟨d, hd, p⟩ := m
    unfold cellAt at hd
    split at hd
    · rename_i xs i hc
      cases r2
      obtain ⟨vs, hv, rv⟩ := (ce.cel _ _ hc).1
      obtain ⟨w, hw, rw'⟩ := atI_getD rv hd
      exact ix_list value slice pins s σ H _ _ v u Q I rx ry ⟨_, vs, _, w, rfl, rfl, .of hv, hw, k d w rw' p⟩ hs
    · cases hd
  · exact m.elim

/-- slices -/
theorem cut_of {K : PySem.W.Frag} {F : Hp} {xs : List V} {ds : List D} (r : Reps K F xs ds) (lo hi : Option Int) : Reps K F (cutV xs lo hi) (cutD ds lo hi) := by
  unfold cutV cutD
  rw [r.length]
  exact (r.drop _).take _
def liftSl (K : PySem.W.Frag) : V → Option Int → Option Int → Hp → VK → Prop := fun x lo hi H Q => ∃ (F : Hp) (C : CM) (dx : D) (P : D → Prop), Cells K F H C ∧ Rep K F x dx ∧ sliceR C dx lo hi P ∧ ∀ d F' v H', Grow F H F' H' → Rep K F' v d → P d → Q v H'
theorem s_sl : SlR X (liftSl X.K) := by
  intro pins s σ H x v vl vu lo hi sl Q I rx hs pl pu ⟨F, C, dx, P, ce, r1, m, k⟩
  have sF := ce.fh
  unfold sliceR at m
  split at m
  · obtain ⟨a, xs, rfl, ha, ra⟩ := r1.tup_inv
    refine sl_tupA pins s σ H _ v vl vu lo hi sl Q I rx hs pl pu ⟨a, xs, rfl, sqT_same sF ha, fun e => ?_, fun e p hp => ?_⟩
    · refine k _ F _ H (Grow.refl sF) (.tup ha ra) ?_
      have z : cutV xs lo hi = xs := by unfold cutV; rw [e.1, e.2]; simp
      have z2 := cut_of ra lo hi
      rw [z] at z2
      have z3 : ∀ {ds es : List D}, ds.length = xs.length → es = cutD ds lo hi → es = ds := fun h1 h2 => by
        rw [h2]; unfold cutD; rw [h1, e.1, e.2]; simp [← h1]
      rw [← z3 ra.length.symm rfl]; exact m
    · have g := Grow.new (o := HO.tup (cutV xs lo hi)) sF hp
      exact k _ _ _ _ g (.tup (SqT.of upd_same) ((cut_of ra lo hi).mono g.ff)) m
  · obtain ⟨a, xs, rfl, ha, ra⟩ := r1.lst_inv
    refine sl_list pins s σ H _ v vl vu lo hi sl Q I rx hs pl pu ⟨a, xs, rfl, .of (sF _ _ ha), fun p hp => ?_⟩
    have g := Grow.new (o := HO.lst (cutV xs lo hi)) sF hp
    exact k _ _ _ _ g (.lst upd_same ((cut_of ra lo hi).mono g.ff)) m
  · obtain ⟨a, xs, rfl, ha, ra⟩ := r1.scr_inv
    refine sl_list pins s σ H _ v vl vu lo hi sl Q I rx hs pl pu ⟨a, xs, rfl, sqL_same sF ha, fun p hp => ?_⟩
    have g := Grow.new (o := HO.lst (cutV xs lo hi)) sF hp
    exact k _ _ _ _ g (.lst upd_same ((cut_of ra lo hi).mono g.ff)) m
  · obtain ⟨ys, hc, m⟩ := m
    cases r1
    obtain ⟨xs, ha, ra⟩ := (ce.cel _ _ hc).1
    refine sl_list pins s σ H _ v vl vu lo hi sl Q I rx hs pl pu ⟨_, xs, rfl, .of ha, fun p hp => ?_⟩
    have g := Grow.new (o := HO.lst (cutV xs lo hi)) sF hp
    exact k _ _ _ _ g (.lst upd_same ((cut_of ra lo hi).mono g.ff)) m
  · exact m.elim
end
end M61

set_option Elab.async false
set_option linter.all false
set_option autoImplicit false
set_option maxRecDepth 100000
/-! M3c: built-ins by values. -/
namespace M61
open PySem PySem.Spec PyProof.Rows L2
def liftB (K : PySem.W.Frag) (r : CM → List D → (D → Prop) → Prop) : List V → Hp → VK → Prop := fun xs H Q => ∃ (F : Hp) (ds : List D) (C : CM) (P : D → Prop), Cells K F H C ∧ Reps K F xs ds ∧ r C ds P ∧
  ∀ d F' v H', Grow F H F' H' → Rep K F' v d → P d → Q v H'
theorem reps_bools {K : PySem.W.Frag} {F : Hp} : ∀ {vs : List V} {ds : List D} {ns : List Bool}, Reps K F vs ds → boolsOf ds = some ns → vs = ns.map V.bl
  | _, _, ns, .nil, h => by cases h; rfl
  | _, _, ns, .cons (d := d) (ds := ds) r t, h => by
    cases d <;> first | (cases h; done) | skip
    rename_i i
    cases r
    unfold boolsOf at h
    cases e : boolsOf ds with
    | none => rw [e] at h; cases h
    | some ms =>
      rw [e] at h
      cases h
      rw [reps_bools t e]; rfl
theorem rep_ints {K : PySem.W.Frag} {F : Hp} : ∀ ns : List Int, Reps K F (ns.map V.int) (ns.map D.int)
  | [] => .nil
  | n :: ns => .cons (.int n) (rep_ints ns)
theorem alike_ints (ns : List Int) : PySem.W.AlikeAll (ns.map PyData.int) := by
  refine ⟨fun x hx y hy => ?_, fun x hx => ?_⟩
  · obtain ⟨i, _, rfl⟩ := List.mem_map.mp hx
    obtain ⟨j, _, rfl⟩ := List.mem_map.mp hy
    rfl
  · obtain ⟨i, _, rfl⟩ := List.mem_map.mp hx
    exact fun e => nomatch e
theorem depth_ints : ∀ ns : List Int, PyData.depthAll (ns.map PyData.int) = 0
  | [] => rfl
  | n :: ns => by
    show max (PyData.depth (.int n)) (PyData.depthAll (ns.map PyData.int)) = 0
    rw [depth_ints ns]; rfl

section
variable {X : Cx}
/-- a list or tuple of ints: as the heap has it -/
theorem seq_ints {pins : List (Addr × Obj)} {σ : L2.St} {H : Hp} {s : Shared} {F : Hp} {C : CM} {v : V} {d : D} {xs : List D} {ns : List Int} (I : L2.Inv X pins σ H s) (ce : Cells X.K F H C) (r : Rep X.K F v d) (h1 : seqD C d = some xs) (h2 : intsOf xs = some ns) :
    ∃ a, v = .ref a ∧ ∃ its : List Value, IntsAre its ns ∧ (s.heap.IsList a its.toArray ∨ s.heap.IsTuple a its.toArray) := by
  have sF := ce.fh
  unfold seqD at h1
  split at h1
  · cases h1
    obtain ⟨a, vs, rfl, ha, ra⟩ := r.tup_inv
    obtain ⟨its, rv, ht, _⟩ := I.tuple (sqT_same sF ha)
    rw [reps_ints ra h2] at rv
    exact ⟨a, rfl, its, rv.ints, .inr ht⟩
  · cases h1
    obtain ⟨a, vs, rfl, ha, ra⟩ := r.lst_inv
    obtain ⟨its, rv, ht, _⟩ := I.list (.of (sF _ _ ha))
    rw [reps_ints ra h2] at rv
    exact ⟨a, rfl, its, rv.ints, .inl ht.isList⟩
  · cases r
    unfold cellL at h1
    split at h1
    · rename_i hc
      cases h1
      obtain ⟨vs, ha, ra⟩ := (ce.cel _ _ hc).1
      obtain ⟨its, rv, ht, _⟩ := I.list (.of ha)
      rw [reps_ints ra h2] at rv
      exact ⟨_, rfl, its, rv.ints, .inl ht.isList⟩
    · cases h1
  · cases h1

theorem c_len : CallR X (.builtin "len") (liftB X.K fun C ds P => bltR C .len ds P) := by
  intro pins s σ H xs us Q I r ⟨F, ds, C, P, ce, rs, m, k⟩
  have sF := ce.fh
  have fin : ∀ n : Nat, P (.int n) → Q (.int n) H := fun n p => k _ F _ H (Grow.refl sF) (.int _) p
  unfold bltR at m
  dsimp only at m
  split at m
  all_goals first | (rename_i hh; cases hh; done) | skip
  · cases rs with
    | cons r1 rr =>
      cases rr
      cases r1
      obtain ⟨ys, hc, p⟩ := m
      obtain ⟨vs, hv, rv⟩ := (ce.cel _ _ hc).1
      rw [← rv.length] at p
      exact call_len_seq pins s σ H _ us Q I r ⟨_, vs, rfl, .inl (.of hv), fin _ p⟩
  · cases rs with
    | cons r1 rr =>
      cases rr
      cases r1
      exact call_len pins s σ H _ us Q I r ⟨_, _, rfl, ⟨m.1, rfl⟩, fin _ m.2⟩
  · cases rs with
    | cons r1 rr =>
      cases rr
      obtain ⟨n, hn, p⟩ := m
      unfold lenD at hn
      split at hn
      · cases hn
        obtain ⟨a, vs, rfl, ha, ra⟩ := r1.tup_inv
        rw [← ra.length] at p
        exact call_len_seq pins s σ H _ us Q I r ⟨_, vs, rfl, .inr (sqT_same sF ha), fin _ p⟩
      · cases hn
        obtain ⟨a, vs, rfl, ha, ra⟩ := r1.lst_inv
        rw [← ra.length] at p
        exact call_len_seq pins s σ H _ us Q I r ⟨_, vs, rfl, .inl (.of (sF _ _ ha)), fin _ p⟩
      · cases hn
        obtain ⟨a, vs, rfl, ha, ra⟩ := r1.scr_inv
        rw [← ra.length] at p
        exact call_len_seq pins s σ H _ us Q I r ⟨_, vs, rfl, .inl (sqL_same sF ha), fin _ p⟩
      · cases hn
  · exact m.elim
theorem c_tuple : CallR X (.type "tuple") (liftB X.K fun C ds P => bltR C .tuple ds P) := by
  intro pins s σ H xs us Q I r ⟨F, ds, C, P, ce, rs, m, k⟩
  have sF := ce.fh
  unfold bltR at m
  dsimp only at m
  split at m
  all_goals first | (rename_i hh; cases hh; done) | skip
  · cases rs with
    | cons r1 rr =>
      cases rr
      obtain ⟨ys, hn, p⟩ := m
      unfold seqD at hn
      split at hn
      · cases hn
        obtain ⟨a, vs, rfl, ha, ra⟩ := r1.tup_inv
        exact call_tuple_of pins s σ H _ us Q I r ⟨_, vs, rfl, .inr ⟨sqT_same sF ha, k _ F _ H (Grow.refl sF) (.tup ha ra) p⟩⟩
      · cases hn
        obtain ⟨a, vs, rfl, ha, ra⟩ := r1.lst_inv
        refine call_tuple_of pins s σ H _ us Q I r ⟨_, vs, rfl, .inl ⟨.of (sF _ _ ha), fun q hq => ?_⟩⟩
        have g := Grow.new (o := HO.tup vs) sF hq
        exact k _ _ _ _ g (.tup (SqT.of upd_same) (ra.mono g.ff)) p
      · cases r1
        unfold cellL at hn
        split at hn
        · rename_i hc
          cases hn
          obtain ⟨vs, ha, ra⟩ := (ce.cel _ _ hc).1
          refine call_tuple_of pins s σ H _ us Q I r ⟨_, vs, rfl, .inl ⟨.of ha, fun q hq => ?_⟩⟩
          have g := Grow.new (o := HO.tup vs) sF hq
          exact k _ _ _ _ g (.tup (SqT.of upd_same) (ra.mono g.ff)) p
        · cases hn
      · cases hn
  · exact m.elim
theorem c_sum (hc : X.calm = true) : CallR X (.builtin "sum") (liftB X.K fun C ds P => bltR C .sum ds P) := by
  intro pins s σ H xs us Q I r ⟨F, ds, C, P, ce, rs, m, k⟩
  have sF := ce.fh
  have fin : ∀ n : Int, P (.int n) → Q (.int n) H := fun n p => k _ F _ H (Grow.refl sF) (.int _) p
  unfold bltR at m
  dsimp only at m
  split at m
  all_goals first | (rename_i hh; cases hh; done) | skip
  · cases rs with
    | cons r1 rr =>
      cases rr
      obtain ⟨ys, ns, h1, h2, p⟩ := m
      obtain ⟨a, rfl, its, hi, hl⟩ := seq_ints I ce r1 h1 h2
      rw [Vals.ref1 r]
      rcases hl with hl | hl
      · exact sum_raw (I.ok.hd hc) hl hi fun h' tk t' hk => ⟨.int _, H, I.kept hk, ⟨_, rfl⟩, fin _ p⟩
      · obtain ⟨zs, e⟩ := hi.allInts.items
        have hn : numsOf (intItems zs).toList = ns := by rw [← e]; exact hi.numsOf
        rw [nums_intItems] at hn
        rw [e] at hl
        refine PySem.W.ktm_sumG (I.ok.hd hc) hl fun h' tk t' hk => ⟨.int ns.sum, H, I.kept hk, ?_, fin _ p⟩
        rw [preSum_eq, List.take_of_length_le (by simp), hn]
        exact ⟨_, rfl⟩
  · exact m.elim
theorem c_max (hc : X.calm = true) (hr : Room 0 X.A) : CallR X (.builtin "max") (liftB X.K fun C ds P => bltR C .max ds P) := by
  intro pins s σ H xs us Q I r ⟨F, ds, C, P, ce, rs, m, k⟩
  have sF := ce.fh
  have fin : ∀ n : Int, P (.int n) → Q (.int n) H := fun n p => k _ F _ H (Grow.refl sF) (.int _) p
  have hu : X.A.units + 1 < cLine := by have := hr.un; omega
  unfold bltR at m
  dsimp only at m
  split at m
  all_goals first | (rename_i hh; cases hh; done) | skip
  · cases rs with
    | cons r1 rr =>
      cases rr
      obtain ⟨ys, ns, h1, h2, h3, p⟩ := m
      obtain ⟨a, rfl, its, hi, hl⟩ := seq_ints I ce r1 h1 h2
      rw [Vals.ref1 r]
      cases ns with
      | nil => exact absurd rfl h3
      | cons n ns =>
        have hR := hi.reads s.heap
        rw [List.map_cons] at hR
        have hA : PySem.W.AlikeAll (PyData.int n :: ns.map PyData.int) := alike_ints (n :: ns)
        have hD : X.A.units + 1 + PyData.depthAll (PyData.int n :: ns.map PyData.int) < cLine := by
          have := depth_ints (n :: ns)
          rw [List.map_cons] at this
          rw [this]; exact hu
        rcases hl with hl | hl
        · refine PySem.W.max_list_data (I.ok.hd hc) hl (by simpa using hR) hA hD fun i v h' tk bs hv rd hk => ?_
          rw [PySem.W.maxD_ints] at rd
          obtain ⟨t, rfl, _⟩ := reads_int_inv rd
          exact ⟨.int _, H, I.kept hk, ⟨_, rfl⟩, fin _ p⟩
        · refine PySem.W.max_tuple_data (I.ok.hd hc) hl (by simpa using hR) hA hD fun i v h' tk bs hv rd hk => ?_
          rw [PySem.W.maxD_ints] at rd
          obtain ⟨t, rfl, _⟩ := reads_int_inv rd
          exact ⟨.int _, H, I.kept hk, ⟨_, rfl⟩, fin _ p⟩
  · exact m.elim
theorem c_min (hc : X.calm = true) (hr : Room 0 X.A) : CallR X (.builtin "min") (liftB X.K fun C ds P => bltR C .min ds P) := by
  intro pins s σ H xs us Q I r ⟨F, ds, C, P, ce, rs, m, k⟩
  have sF := ce.fh
  have fin : ∀ n : Int, P (.int n) → Q (.int n) H := fun n p => k _ F _ H (Grow.refl sF) (.int _) p
  have hu : X.A.units + 1 < cLine := by have := hr.un; omega
  unfold bltR at m
  dsimp only at m
  split at m
  all_goals first | (rename_i hh; cases hh; done) | skip
  · cases rs with
    | cons r1 rr =>
      cases rr
      obtain ⟨ys, ns, h1, h2, h3, p⟩ := m
      obtain ⟨a, rfl, its, hi, hl⟩ := seq_ints I ce r1 h1 h2
      rw [Vals.ref1 r]
      cases ns with
      | nil => exact absurd rfl h3
      | cons n ns =>
        have hR := hi.reads s.heap
        rw [List.map_cons] at hR
        have hA : PySem.W.AlikeAll (PyData.int n :: ns.map PyData.int) := alike_ints (n :: ns)
        have hD : X.A.units + 1 + PyData.depthAll (PyData.int n :: ns.map PyData.int) < cLine := by
          have := depth_ints (n :: ns)
          rw [List.map_cons] at this
          rw [this]; exact hu
        rcases hl with hl | hl
        · refine PySem.W.min_list_data (I.ok.hd hc) hl (by simpa using hR) hA hD fun i v h' tk bs hv rd hk => ?_
          rw [PySem.W.minD_ints] at rd
          obtain ⟨t, rfl, _⟩ := reads_int_inv rd
          exact ⟨.int _, H, I.kept hk, ⟨_, rfl⟩, fin _ p⟩
        · refine PySem.W.min_tuple_data (I.ok.hd hc) hl (by simpa using hR) hA hD fun i v h' tk bs hv rd hk => ?_
          rw [PySem.W.minD_ints] at rd
          obtain ⟨t, rfl, _⟩ := reads_int_inv rd
          exact ⟨.int _, H, I.kept hk, ⟨_, rfl⟩, fin _ p⟩
  · exact m.elim
theorem c_min2 (hc : X.calm = true) : CallR X (.builtin "min") (liftB X.K fun C ds P => bltR C .min2 ds P) := by
  intro pins s σ H xs us Q I r ⟨F, ds, C, P, ce, rs, m, k⟩
  have sF := ce.fh
  unfold bltR at m
  dsimp only at m
  split at m
  all_goals first | (rename_i hh; cases hh; done) | skip
  · cases rs with
    | cons r1 rr =>
      cases rr with
      | cons r2 rr =>
        cases rr; cases r1; cases r2
        exact call_min2 hc pins s σ H _ us Q I r ⟨_, _, rfl, k _ F _ H (Grow.refl sF) (.int _) m⟩
  · exact m.elim
theorem c_max2 (hc : X.calm = true) : CallR X (.builtin "max") (liftB X.K fun C ds P => bltR C .max2 ds P) := by
  intro pins s σ H xs us Q I r ⟨F, ds, C, P, ce, rs, m, k⟩
  have sF := ce.fh
  unfold bltR at m
  dsimp only at m
  split at m
  all_goals first | (rename_i hh; cases hh; done) | skip
  · cases rs with
    | cons r1 rr =>
      cases rr with
      | cons r2 rr =>
        cases rr; cases r1; cases r2
        exact call_max2 hc pins s σ H _ us Q I r ⟨_, _, rfl, k _ F _ H (Grow.refl sF) (.int _) m⟩
  · exact m.elim
theorem c_abs : CallR X (.builtin "abs") (liftB X.K fun C ds P => bltR C .abs ds P) := by
  intro pins s σ H xs us Q I r ⟨F, ds, C, P, ce, rs, m, k⟩
  have sF := ce.fh
  unfold bltR at m
  dsimp only at m
  split at m
  all_goals first | (rename_i hh; cases hh; done) | skip
  · cases rs with
    | cons r1 rr =>
      cases rr; cases r1
      exact call_abs pins s σ H _ us Q I r ⟨_, rfl, k _ F _ H (Grow.refl sF) (.int _) m⟩
  · exact m.elim
theorem c_int : CallR X (.type "int") (liftB X.K fun C ds P => bltR C .int ds P) := by
  intro pins s σ H xs us Q I r ⟨F, ds, C, P, ce, rs, m, k⟩
  have sF := ce.fh
  unfold bltR at m
  dsimp only at m
  split at m
  all_goals first | (rename_i hh; cases hh; done) | skip
  · cases rs with
    | cons r1 rr =>
      cases rr; cases r1
      exact call_int1 pins s σ H _ us Q I r (.inl ⟨_, rfl, k _ F _ H (Grow.refl sF) (.int _) m⟩)
  · cases rs with
    | cons r1 rr =>
      cases rr; cases r1
      exact call_int1 pins s σ H _ us Q I r (.inr ⟨_, rfl, k _ F _ H (Grow.refl sF) (.int _) m⟩)
  · exact m.elim
theorem c_all (hc : X.calm = true) : CallR X (.builtin "all") (liftB X.K fun C ds P => bltR C .all ds P) := by
  intro pins s σ H xs us Q I r ⟨F, ds, C, P, ce, rs, m, k⟩
  have sF := ce.fh
  unfold bltR at m
  dsimp only at m
  split at m
  all_goals first | (rename_i hh; cases hh; done) | skip
  · cases rs with
    | cons r1 rr =>
      cases rr
      obtain ⟨bs, h2, p⟩ := m
      obtain ⟨a, vs, rfl, ha, ra⟩ := r1.lst_inv
      rw [reps_bools ra h2] at ha
      exact cr_all hc pins s σ H _ us Q I r ⟨a, bs, rfl, .of (sF _ _ ha), k _ F _ H (Grow.refl sF) (.bl _) p⟩
  · exact m.elim
theorem c_any (hc : X.calm = true) : CallR X (.builtin "any") (liftB X.K fun C ds P => bltR C .any ds P) := by
  intro pins s σ H xs us Q I r ⟨F, ds, C, P, ce, rs, m, k⟩
  have sF := ce.fh
  unfold bltR at m
  dsimp only at m
  split at m
  all_goals first | (rename_i hh; cases hh; done) | skip
  · cases rs with
    | cons r1 rr =>
      cases rr
      obtain ⟨bs, h2, p⟩ := m
      obtain ⟨a, vs, rfl, ha, ra⟩ := r1.lst_inv
      rw [reps_bools ra h2] at ha
      exact cr_any hc pins s σ H _ us Q I r ⟨a, bs, rfl, .of (sF _ _ ha), k _ F _ H (Grow.refl sF) (.bl _) p⟩
  · exact m.elim

def tyName : Ty → String
  | .int => "int" | .bool => "bool" | .tuple => "tuple" | .list => "list" | .str => "str" | .dict => "dict"
/-- isinstance(x, T) -/
def liftIs (K : PySem.W.Frag) (t : Ty) : List V → Hp → VK → Prop := fun xs H Q => ∃ (F : Hp) (v : V) (d : D) (b : Bool), xs = [v, .ty (tyName t)] ∧ Same F H ∧ Rep K F v d ∧ isTy t d = some b ∧ Q (.bl b) H
theorem tyx_of {F H : Hp} {v : V} {d : D} (sF : Same F H) (r : Rep X.K F v d) {t : Ty} {b : Bool} (h : isTy t d = some b) : ∃ n, TyX X.K H v (.type n) ∧ kitB n (tyName t) = some b := by
  cases r with
  | non => refine ⟨"NoneType", .base .non, ?_⟩; cases t <;> (cases h; first | (show kitB _ _ = some true; decide +kernel) | (show kitB _ _ = some false; decide +kernel))
  | bl b => refine ⟨"bool", .base (.bl _), ?_⟩; cases t <;> (cases h; first | (show kitB _ _ = some true; decide +kernel) | (show kitB _ _ = some false; decide +kernel))
  | int b => refine ⟨"int", .base (.int _), ?_⟩; cases t <;> (cases h; first | (show kitB _ _ = some true; decide +kernel) | (show kitB _ _ = some false; decide +kernel))
  | str b => refine ⟨"str", .base (.str _), ?_⟩; cases t <;> (cases h; first | (show kitB _ _ = some true; decide +kernel) | (show kitB _ _ = some false; decide +kernel))
  | tup ha ra =>
    refine ⟨"tuple", ?_, ?_⟩
    · rcases sqT_same sF ha with (q | ⟨o, q⟩) | ⟨o, its, n, q, c, _⟩
      · exact .base (.tup q)
      · exact .fTuple q
      · exact .kTuple q c
    · cases t <;> (cases h; first | (show kitB _ _ = some true; decide +kernel) | (show kitB _ _ = some false; decide +kernel))
  | lst ha ra => refine ⟨"list", .base (.lst (sF _ _ ha)), ?_⟩; cases t <;> (cases h; first | (show kitB _ _ = some true; decide +kernel) | (show kitB _ _ = some false; decide +kernel))
  | scr ha ra => cases t <;> cases h
  | ref a => cases t <;> cases h
  | dic ha hd =>
    rename_i a u
    refine ⟨"dict", ?_, ?_⟩
    · cases u with
      | dT kvs => exact .base (.dT (sF _ _ ha))
      | dK kvs => exact .base (.dK (sF _ _ ha))
      | _ => exact hd.elim
    · cases t <;> (cases h; first | (show kitB _ _ = some true; decide +kernel) | (show kitB _ _ = some false; decide +kernel))
theorem c_isi (t : Ty) : CallR X (.builtin "isinstance") (liftIs X.K t) := by
  intro pins s σ H xs us Q I r ⟨F, v, d, b, e, sF, rv, h, q⟩
  subst e
  obtain ⟨n, ty, kb⟩ := tyx_of sF rv h
  exact call_isi pins s σ H _ us Q I r ⟨_, _, _, _, b, rfl, .ty _, ty, kit_ty kb, q⟩

/-- list(x), sorted(x): a fresh list -/
def liftF (K : PySem.W.Frag) (r : D → (List D → Prop) → Prop) : List V → Hp → VK → Prop := fun xs H Q => ∃ (F : Hp) (v : V) (d : D) (P : List D → Prop), xs = [v] ∧ Same F H ∧ Rep K F v d ∧ r d P ∧
  ∀ ds p vs, H p = none → Reps K F vs ds → P ds → Q (.ref p) (upd H p (.lst vs))
theorem c_list : CallR X (.type "list") (liftF X.K fun d P => match d with | .tup xs => P xs | .lst xs => P xs | _ => False) := by
  intro pins s σ H xs us Q I r ⟨F, v, d, P, e, sF, rv, m, k⟩
  subst e
  dsimp only at m
  split at m
  · obtain ⟨a, vs, rfl, ha, ra⟩ := rv.tup_inv
    exact call_list_of pins s σ H _ us Q I r ⟨a, vs, rfl, .inr (sqT_same sF ha), fun p hp => k _ p vs hp ra m⟩
  · obtain ⟨a, vs, rfl, ha, ra⟩ := rv.lst_inv
    exact call_list_of pins s σ H _ us Q I r ⟨a, vs, rfl, .inl (.of (sF _ _ ha)), fun p hp => k _ p vs hp ra m⟩
  · exact m.elim
theorem insI_perm (x : Int) : ∀ l : List Int, (insI x l).Perm (x :: l)
  | [] => List.Perm.refl _
  | y :: r => by
    unfold insI
    split
    · exact List.Perm.refl _
    · exact ((insI_perm x r).cons y).trans (List.Perm.swap x y r)
theorem sortI_perm : ∀ l : List Int, (sortI l).Perm l
  | [] => List.Perm.refl _
  | x :: r => (insI_perm x _).trans ((sortI_perm r).cons x)
theorem insI_sorted (x : Int) : ∀ l : List Int, l.Pairwise (· ≤ ·) → (insI x l).Pairwise (· ≤ ·)
  | [], _ => List.pairwise_singleton _ _
  | y :: r, h => by
    unfold insI
    rw [List.pairwise_cons] at h
    split
    · rename_i hxy
      refine List.pairwise_cons.mpr ⟨fun z hz => ?_, List.pairwise_cons.mpr h⟩
      rcases List.mem_cons.mp hz with rfl | hz
      · exact hxy
      · exact Int.le_trans hxy (h.1 z hz)
    · rename_i hxy
      refine List.pairwise_cons.mpr ⟨fun z hz => ?_, insI_sorted x r h.2⟩
      rcases List.mem_cons.mp ((insI_perm x r).mem_iff.mp hz) with rfl | hz
      · omega
      · exact h.1 z hz
theorem sortI_sorted : ∀ l : List Int, (sortI l).Pairwise (· ≤ ·)
  | [] => List.Pairwise.nil
  | x :: r => insI_sorted x _ (sortI_sorted r)
theorem sort_uniq : ∀ {a b : List Int}, a.Perm b → a.Pairwise (· ≤ ·) → b.Pairwise (· ≤ ·) → a = b := fun p h1 h2 =>
  List.Perm.eq_of_pairwise (le := fun x y => x ≤ y) (fun x y _ _ h h' => Int.le_antisymm h h') h1 h2 p
theorem c_sorted : CallR X (.builtin "sorted") (liftF X.K fun d P => match d with | .lst xs => ∃ ns, intsOf xs = some ns ∧ P ((sortI ns).map D.int) | _ => False) := by
  intro pins s σ H xs us Q I r ⟨F, v, d, P, e, sF, rv, m, k⟩
  subst e
  dsimp only at m
  split at m
  · obtain ⟨a, vs, rfl, ha, ra⟩ := rv.lst_inv
    obtain ⟨ns, hn, p⟩ := m
    rw [reps_ints ra hn] at ha
    refine cr_sortedI pins s σ H _ us Q I r ⟨a, ns, rfl, .of (sF _ _ ha), fun ns' q hp hs hq => ?_⟩
    have e : ns' = sortI ns := sort_uniq (hp.trans (sortI_perm ns).symm) hs (sortI_sorted ns)
    rw [e]
    exact k _ q _ hq (rep_ints _) p
  · exact m.elim
end
end M61

set_option Elab.async false
set_option linter.all false
set_option autoImplicit false
set_option maxRecDepth 100000
/-! M3d: what is walked. -/
namespace PySem
open AutoSeq1 (wpAny_loadPart')
theorem meets_enumerate_new1 {v : Value} {o : Obj} {H : Heap → Prop} (B : Begins v o H) :
    Meets (Builtin.«enumerate.__new__» ⟨[.type "enumerate", v], []⟩) (fun _ R s => H s.heap ∧
      R (.ok (.ret (.ref (s.heap.push o).objs.size))) { s with heap := (s.heap.push o).push { cls := .type "enumerate", data := .fields #[.none, .bool false, .ref s.heap.objs.size, rawInt 0, .none, .none] } }) :=
  .of_wp fun prog w A R s h => by
    obtain ⟨hp, g, d, tk, os⟩ := s; obtain ⟨h1, h⟩ := h
    have hsub := sub_enumerate
    have q1 : ∀ {A' : Around} {E : Value → Shared → Prop} {Q : Value → Shared → Prop}, Q (.ref hp.objs.size) ⟨hp.push o, g, d, tk, os⟩ → wpAny (model prog w) A' (pyIter v) Q E ⟨hp, g, d, tk, os⟩ :=
      fun q => B.iter prog w _ _ ⟨hp, g, d, tk, os⟩ _ h1 q
    wp_walk using q1
    refine wpAny_stack_any fun st => wpAny_pure ?_
    split
    · rename_i c _ _ _ _ _
      cases (c == Value.type "enumerate")
      · wp_walk using q1
        exact ⟨_, rfl, h⟩
      · wp_walk using q1
        exact ⟨_, rfl, h⟩
    · wp_walk using q1
      exact ⟨_, rfl, h⟩
section
variable {prog : Program} {w : World} {A : Around} {E : Value → Shared → Prop} {s : Shared}
theorem enum_begins1 {v : Value} {o : Obj} {H : Heap → Prop} {Q : Value → Shared → Prop} (B : Begins v o H) (h1 : H s.heap)
    (h : ∀ h', IsEnum h' (s.heap.objs.size + 1) s.heap.objs.size 0 .none → h'.get? s.heap.objs.size = some o → h'.objs.size = s.heap.objs.size + 2 →
      (∀ b o, s.heap.get? b = some o → h'.get? b = some o) → Q (.ref (s.heap.objs.size + 1)) { s with heap := h' }) :
    wpAny (model prog w) A (call (.type "enumerate") [v]) Q E s := by
  refine callType_new F.called_enumerate (by decide) (F.typeCall_enumerate_1 _) (F.newCall_enumerate_1 _) (fun obj => F.args_object_init_2 obj _) F.entry_enumerate_new
    (meets_enumerate_new1 B) ⟨h1, ?_⟩
  have hz : (s.heap.push o).objs.size = s.heap.objs.size + 1 := Heap.size_push ..
  show _ ∧ _
  rw [hz]
  have he : IsEnum ((s.heap.push o).push { cls := .type "enumerate", data := .fields #[.none, .bool false, .ref s.heap.objs.size, rawInt 0, .none, .none] }) (s.heap.objs.size + 1) s.heap.objs.size 0 .none := by
    have := Heap.get?_push_size (s.heap.push o) (o := { cls := .type "enumerate", data := .fields #[.none, .bool false, .ref s.heap.objs.size, rawInt 0, .none, .none] }) rfl
    rw [hz] at this; exact this
  refine ⟨⟨_, he, rfl⟩, h _ he (Heap.get?_push_of_some _ (Heap.get?_push_size _ B.free)) (by rw [Heap.size_push, hz]) fun b o x => Heap.get?_push_of_some _ (Heap.get?_push_of_some _ x)⟩
end
end PySem
namespace M61
open PySem PySem.Spec PyProof.Rows L2
section
/-- the tuple at a, each item in a new pair with its number -/
def IteT (K : PySem.W.Frag) (a : Addr) : It :=
  ⟨fun i H => ∃ (xs : List V) (x : V), SqT K H a xs ∧ xs[i]? = some x, fun i H v H' => ∃ T x, v = .ref T ∧ H T = none ∧ H' = upd H T (.tup [.int (i : Nat), x]) ∧ ∀ xs, SqT K H a xs → xs[i]? = some x, fun i H => ∃ xs : List V, SqT K H a xs ∧ xs.length ≤ i⟩
theorem turn_enumT {P : Program} {w : World} {K : PySem.W.Frag} {elts : List Expr} {kk : Nat} {tpos : Pos} (a e it : Addr) :
    Turn P w K (.Tuple elts kk tpos) (IteT K a) [e, it] e (fun i h => (∃ old, IsEnum h e it ((i : Nat) : Int) old) ∧ h.IsTupleIter it a i ∧ e ≠ it ∧ a ≠ it ∧ a ≠ e) where
  mem := by simp
  obj := fun i h st b hb => by
    obtain ⟨⟨old, he⟩, ⟨o, ho, hc, hd⟩, _⟩ := st
    have e' : b = e ∨ b = it := by simpa using hb
    rcases e' with z | z
    · rw [z]; exact ⟨_, he, fun v q => nomatch q⟩
    · rw [z]; exact ⟨o, ho, fun v q => by rw [hd] at q; cases q⟩
  keep := fun i h h' st k => let ⟨⟨old, he⟩, hi, hne⟩ := st; ⟨⟨old, k e (by simp) _ he⟩, hi.at fun o q => k it (by simp) o q, hne⟩
  item := by
    intro X hP hw hK hc i pins s σ H E I hf st hg
    subst hP hw hK
    obtain ⟨⟨old, he⟩, hit, hne, hai, hae⟩ := st
    obtain ⟨xs, x, hq, hx⟩ := hg
    obtain ⟨its, rv, p, hz⟩ := I.tuple hq
    obtain ⟨u, hu, ru⟩ := rv.get hx
    have hel : e < s.heap.objs.size := Heap.lt_size he
    have hil : it < s.heap.objs.size := by obtain ⟨_, q, _⟩ := hit; exact Heap.lt_size q
    have D := Draws.tuple (prog := X.prog) (w := X.w) (A := X.A.in1) (I.ok.hd hc) it a hai its.toArray
    have hlt : i < its.toArray.size := by
      rw [List.size_toArray]; exact (List.getElem?_eq_some_iff.mp hu).1
    refine wpAny_pyNext_enum_itemD D he ⟨hit, p⟩ hlt hne (by simp; exact ⟨hne, Ne.symm hae⟩) fun u' h' tk hu' ho hst' hT hsz hk => ?_
    obtain ⟨hit', _⟩ := hst'
    have eu : u' = u := by
      have q : its[i]? = some u' := by simpa using hu'
      rw [hu] at q; exact (Option.some.inj q).symm
    subst eu
    refine ⟨_, rfl, wpAny_letOwnedTupleGo_enum (s := { s with heap := h', toks := tk + 1 }) ho fun h'' he' sb => ?_⟩
    have hT2 : h''.get? s.heap.objs.size = some { cls := .type "tuple", data := .seq #[.int i tk, u'] } := (sb.2 _ (Nat.ne_of_gt hel)).trans hT
    have new : ObjOk X.prog X.w (upd H s.heap.objs.size (.tup [.int (i : Nat), x])) h'' s.heap.objs.size (.tup [.int (i : Nat), x]) :=
      ⟨by show 2 ≤ sizeLine; decide, [.int i tk, u'], .cons ⟨_, rfl⟩ (.cons ru .nil), ⟨_, hT2, rfl, _, rfl⟩⟩
    have I1 : Inv X pins σ (upd H s.heap.objs.size (.tup [.int (i : Nat), x])) { s with heap := h'', toks := tk + 1 } :=
      I.turnedNew (ch := [e, it]) (fun b ob hb q => (sb.2 b (fun z => hb (by simp [z]))).trans (hk b ob (fun z => hb (by simp [z])) (fun z => hb (by simp [z])) q)) hf (Nat.le_refl _) new
    refine ⟨.ref s.heap.objs.size, _, I1, rfl, ⟨_, x, rfl, I.hok.fresh (Nat.le_refl _), rfl, fun ys hy => by rw [I.tuple_inj hy hq]; exact hx⟩, ⟨⟨u', ?_⟩, hit'.at fun o q => (sb.2 it (Ne.symm hne)).trans q, hne, hai, hae⟩, fun b hb => ?_⟩
    · have e1 : ((i + 1 : Nat) : Int) = (i : Int) + 1 := by omega
      rw [e1]; exact he'
    · have hb' : b < s.heap.objs.size := by
        have e' : b = e ∨ b = it := by simpa using hb
        rcases e' with z | z
        · rw [z]; exact hel
        · rw [z]; exact hil
      rw [upd_ne (Nat.ne_of_lt hb')]
      exact (hf b hb).1
  done := by
    intro X hP hw hK hc i pins s σ H E I hf st hg
    subst hP hw hK
    obtain ⟨⟨old, he⟩, hit, hne, hai, hae⟩ := st
    obtain ⟨xs, hq, hx⟩ := hg
    obtain ⟨its, rv, p, hz⟩ := I.tuple hq
    obtain ⟨f0, f1, f2, f3, f4, f5⟩ := hf it (by simp)
    have hl := rv.length
    unfold pyNext
    have hT : s.TypeIs (.ref e) "enumerate" := ⟨_, he, rfl⟩
    refine wpAny_bind (wpAny_attempt (wpAny_callSpecial?_slot (name := Str.ofString "__next__") hT F.slot_enumerate_next
      (wpAny_call_entry F.slot_enumerate_next hT F.entry_enumerate_next ?_ (F.args_enumerate_next_1 _))))
    show wpAny _ _ (field (.ref e) 2 >>= _) _ _ _
    refine wpAny_bind (wpAny_field he rfl (x := .ref it) rfl ?_)
    refine wpAny_bind (wpAny_nextOf_tuple_end (I.ok.hd hc) hit p (by simp; omega) fun h' x he' hx' => ?_)
    obtain ⟨o, ho, hcc⟩ := hx'
    refine wpAny_bind (wpAny_isInstance (T := "StopIteration") (b := true) ⟨o, ho, hcc⟩ isSubtype_stop ?_)
    exact wpAny_pure ⟨rfl, I.turned (t' := s.toks) (fun b o hb q => he' b o hb q) f0 f1 f3 f4 f5⟩
  self := fun A i s Q E st h => let ⟨⟨_, he⟩, _⟩ := st; wpAny_pyIter_enum he h
theorem walk_enumT {K : PySem.W.Frag} {a : Addr} {xs : List V} : Walk (IteT K a) xs.length (fun H => SqT K H a xs) (YPair (fun i => some (.int (i : Nat))) (fun i => xs[i]?)) := by
  refine ⟨fun i _ hi q => ⟨xs, xs[i], q, by simp [hi]⟩, fun _ q => ⟨xs, q, Nat.le_refl _⟩, fun i H v H' _ q y => ?_⟩
  obtain ⟨T, x, h1, h2, h3, h4⟩ := y
  exact ⟨T, .int (i : Nat), x, h1, h2, h3, rfl, h4 xs q⟩
variable {X : Cx}
/-- a list or a tuple, walked -/
def iSeq (K : PySem.W.Frag) (tl : TE) : TI := fun σ H R => tl σ H fun x H1 => ∃ a xs, x = .ref a ∧ ((SqL K H1 a xs ∧ R (Itl K a) H1) ∨ (SqT K H1 a xs ∧ R (Itt K a) H1))
theorem pi_seq {tg l : Expr} {tl : TE} (hl : PE X l tl) : PI X tg l (iSeq X.K tl) := by
  refine ⟨fun pins s σ H R I h => ?_⟩
  refine thn (hl.run pins s σ H _ I h) fun v s1 ⟨x, H1, I1, r1, q1⟩ => ?_
  obtain ⟨a, xs, e, q⟩ := q1
  subst e
  cases r1
  rcases q with ⟨hq, q⟩ | ⟨hq, q⟩
  · obtain ⟨its, rv, p, hz⟩ := I1.list hq
    refine wpAny_pyIter_list p.isList ?_
    refine ⟨s1.heap.objs.size, [s1.heap.objs.size], _, _, H1, rfl, I1.kept (t' := s1.toks) fun b o e => Heap.get?_push_of_some _ e, turn_list a _, ⟨_, Heap.get?_push_size _ rfl, rfl, rfl⟩, fun b hb => ?_, q⟩
    have e : b = s1.heap.objs.size := by simpa using hb
    subst e
    exact I1.fpOk (Nat.le_refl _) (I1.hok.fresh (Nat.le_refl _))
  · obtain ⟨its, rv, p, hz⟩ := I1.tuple hq
    refine wpAny_pyIter_tuple (show s1.heap.IsTuple a its.toArray from p) ?_
    refine ⟨s1.heap.objs.size, [s1.heap.objs.size], _, _, H1, rfl, I1.kept (t' := s1.toks) fun b o e => Heap.get?_push_of_some _ e, turn_tuple a _, ⟨_, Heap.get?_push_size _ rfl, rfl, rfl⟩, fun b hb => ?_, q⟩
    have e : b = s1.heap.objs.size := by simpa using hb
    subst e
    exact I1.fpOk (Nat.le_refl _) (I1.hok.fresh (Nat.le_refl _))
def iEnumA (K : PySem.W.Frag) (ta : TA) : TI := fun σ H R => ta σ H fun vs H1 => ∃ a xs, vs = [.ref a] ∧ ((SqL K H1 a xs ∧ R (Ite K a) H1) ∨ (SqT K H1 a xs ∧ R (IteT K a) H1))
theorem pi_enumA {e : Expr} {ta : TA} {p pos tpos : Pos} {elts : List Expr} {kk : Nat} (hg : Gl X "enumerate") (hm : X.mg "enumerate" = none) (ha : PA X [e] ta) (hs : starEach [e] X.env = [(false, eval e X.env)]) :
    PI X (.Tuple elts kk tpos) (.Call (.Name "enumerate" p) [e] [] pos) (iEnumA X.K ta) := by
  refine ⟨fun pins s σ H R I h => ?_⟩
  refine Call_ (ld_blt I hg hm boot_enumerate (PyProof.Rows.callWith_type1 (thn (ha.run pos pins s σ H _ I h) fun us s1 ⟨vs, H1, I1, r1, q1⟩ => ?_) hs rfl))
  obtain ⟨a, xs, ex, q⟩ := q1
  subst ex
  cases r1 with
  | cons r rr =>
    cases rr
    cases r
    have fp : ∀ b, b ∈ [s1.heap.objs.size + 1, s1.heap.objs.size] → s1.heap.objs.size ≤ b := fun b hb => by
      have e' : b = s1.heap.objs.size + 1 ∨ b = s1.heap.objs.size := by simpa using hb
      rcases e' with z | z
      · rw [z]; exact Nat.le_add_right _ _
      · rw [z]; exact Nat.le_refl _
    rcases q with ⟨hq, q⟩ | ⟨hq, q⟩
    · obtain ⟨its, rv, p', hz⟩ := I1.list hq
      refine call_enumerate_list p'.isList fun h' he hit hsz hk => wpAny_pyIter_enum he ?_
      have I2 : Inv X pins σ H1 { s1 with heap := h' } := I1.kept (t' := s1.toks) hk
      exact ⟨s1.heap.objs.size + 1, [s1.heap.objs.size + 1, s1.heap.objs.size], _, _, H1, rfl, I2, turn_enum a (s1.heap.objs.size + 1) s1.heap.objs.size, ⟨⟨.none, he⟩, hit, Nat.succ_ne_self _⟩, fun b hb => I1.fpOk (fp b hb) (I1.hok.fresh (fp b hb)), q⟩
    · obtain ⟨its, rv, p', hz⟩ := I1.tuple hq
      have hal : a < s1.heap.objs.size := by obtain ⟨_, q, _⟩ := p'; exact Heap.lt_size q
      refine enum_begins1 (begins_tuple a its.toArray) p' fun h' he hit hsz hk => wpAny_pyIter_enum he ?_
      have I2 : Inv X pins σ H1 { s1 with heap := h' } := I1.kept (t' := s1.toks) hk
      exact ⟨s1.heap.objs.size + 1, [s1.heap.objs.size + 1, s1.heap.objs.size], _, _, H1, rfl, I2, turn_enumT a (s1.heap.objs.size + 1) s1.heap.objs.size, ⟨⟨.none, he⟩, ⟨_, hit, rfl, rfl⟩, Nat.succ_ne_self _, Nat.ne_of_lt hal, Nat.ne_of_lt (Nat.lt_succ_of_lt hal)⟩, fun b hb => I1.fpOk (fp b hb) (I1.hok.fresh (fp b hb)), q⟩
end
/-- what J gives, turn by turn, is ds -/
def IterOk (K : PySem.W.Frag) (F : Hp) (ds : List D) (J : It) : Prop := ∃ (G : Hp → Prop) (Y : Nat → Hp → V → Hp → Prop), Walk J ds.length G Y ∧ (∀ H, Same F H → G H) ∧
  ∀ i H F2 x H', i < ds.length → Same F F2 → Same F2 H → Y i H x H' → ∃ F3 d, Grow F2 H F3 H' ∧ ds[i]? = some d ∧ Rep K F3 x d
section
variable {K : PySem.W.Frag} {F : Hp}
theorem it_at {xs : List V} {ds : List D} (r : Reps K F xs ds) {i : Nat} {H F2 H' : Hp} {x : V} (s : Same F F2) (s2 : Same F2 H) (y : YAt xs i H x H') : ∃ F3 d, Grow F2 H F3 H' ∧ ds[i]? = some d ∧ Rep K F3 x d := by
  obtain ⟨e, h⟩ := y
  subst e
  obtain ⟨d, hd, rd⟩ := r.get h
  exact ⟨F2, d, Grow.refl s2, hd, rd.mono s⟩
theorem it_list {a : Addr} {xs : List V} {ds : List D} (h : SqL K F a xs) (r : Reps K F xs ds) : IterOk K F ds (Itl K a) :=
  ⟨_, _, by rw [← r.length]; exact walk_list, fun H s => s.seq h, fun i H F2 x H' _ s s2 y => it_at r s s2 y⟩
theorem it_tup {a : Addr} {xs : List V} {ds : List D} (h : SqT K F a xs) (r : Reps K F xs ds) : IterOk K F ds (Itt K a) :=
  ⟨_, _, by rw [← r.length]; exact walk_tup, fun H s => sqT_same s h, fun i H F2 x H' _ s s2 y => it_at r s s2 y⟩
theorem rangeD_len (lo c : Int) (n : Nat) : (rangeD lo c n).length = n := by unfold rangeD; simp
theorem rangeD_get (lo c : Int) (n i : Nat) (h : i < n) : (rangeD lo c n)[i]? = some (.int (lo + (i : Nat) * c)) := by
  unfold rangeD; simp [h]
theorem it_range (lo : Int) (n : Nat) : IterOk K F (rangeD lo 1 n) (Itr lo n) :=
  ⟨_, _, by rw [rangeD_len]; exact walk_range, fun H s => trivial, fun i H F2 x H' hi s s2 y => by
    rw [rangeD_len] at hi
    obtain ⟨e, h⟩ := y
    subst e h
    exact ⟨F2, _, Grow.refl s2, rangeD_get lo 1 n i hi, by rw [Int.mul_one]; exact .int _⟩⟩
theorem it_rangeC (lo c : Int) (n : Nat) : IterOk K F (rangeD lo c n) (Itc lo c n) :=
  ⟨_, _, by rw [rangeD_len]; exact walk_rangeC, fun H s => trivial, fun i H F2 x H' hi s s2 y => by
    rw [rangeD_len] at hi
    obtain ⟨e, h⟩ := y
    subst e h
    exact ⟨F2, _, Grow.refl s2, rangeD_get lo c n i hi, .int _⟩⟩
theorem enumD_len : ∀ (k : Nat) (ds : List D), (enumD k ds).length = ds.length
  | _, [] => rfl
  | k, d :: ds => by unfold enumD; rw [List.length_cons, List.length_cons, enumD_len]
theorem enumD_get : ∀ (k : Nat) (ds : List D) (i : Nat) (d : D), ds[i]? = some d → (enumD k ds)[i]? = some (.tup [.int ((k + i : Nat) : Int), d])
  | _, [], _, _, h => by simp at h
  | k, x :: ds, 0, d, h => by
    simp at h; subst h
    unfold enumD
    simp
  | k, x :: ds, i + 1, d, h => by
    unfold enumD
    rw [List.getElem?_cons_succ] at h ⊢
    rw [enumD_get (k + 1) ds i d h]
    rw [show k + 1 + i = k + (i + 1) by omega]
theorem it_pair {a1 a2 : Nat → Option V} {n : Nat} {ds : List D} (hget : ∀ i x y F2, i < n → a1 i = some x → a2 i = some y → Same F F2 → ∃ d e, Rep K F2 x d ∧ Rep K F2 y e ∧ ds[i]? = some (.tup [d, e])) {i : Nat} {H F2 H' : Hp} {x : V} (hi : i < n) (s : Same F F2) (s2 : Same F2 H)
    (y : YPair a1 a2 i H x H') : ∃ F3 d, Grow F2 H F3 H' ∧ ds[i]? = some d ∧ Rep K F3 x d := by
  obtain ⟨T, u, v, rfl, hT, rfl, h1, h2⟩ := y
  obtain ⟨d, e, r1, r2, hd⟩ := hget i u v F2 hi h1 h2 s
  have g := Grow.new (o := HO.tup [u, v]) s2 hT
  exact ⟨_, _, g, hd, .tup (SqT.of upd_same) (.cons (r1.mono g.ff) (.cons (r2.mono g.ff) .nil))⟩
theorem it_enum {a : Addr} {xs : List V} {ds : List D} (h : SqL K F a xs) (r : Reps K F xs ds) : IterOk K F (enumD 0 ds) (Ite K a) :=
  ⟨_, _, by rw [enumD_len, ← r.length]; exact walk_enum, fun H s => s.seq h, fun i H F2 x H' hi s s2 y => it_pair (n := (enumD 0 ds).length) (fun i u v F2 hi h1 h2 s => by
    cases h1
    obtain ⟨d, hd, rd⟩ := r.get h2
    exact ⟨_, d, .int _, rd.mono s, by rw [enumD_get 0 ds i d hd, Nat.zero_add]⟩) hi s s2 y⟩
theorem it_enumT {a : Addr} {xs : List V} {ds : List D} (h : SqT K F a xs) (r : Reps K F xs ds) : IterOk K F (enumD 0 ds) (IteT K a) :=
  ⟨_, _, by rw [enumD_len, ← r.length]; exact walk_enumT, fun H s => sqT_same s h, fun i H F2 x H' hi s s2 y => it_pair (n := (enumD 0 ds).length) (fun i u v F2 hi h1 h2 s => by
    cases h1
    obtain ⟨d, hd, rd⟩ := r.get h2
    exact ⟨_, d, .int _, rd.mono s, by rw [enumD_get 0 ds i d hd, Nat.zero_add]⟩) hi s s2 y⟩
end
end M61

set_option Elab.async false
set_option linter.all false
set_option autoImplicit false
set_option maxRecDepth 100000
/-! N2: defs' promises where no repr of a list or a tuple is on its way. -/
namespace M61
open PySem PySem.Spec PyProof.Rows L2
/-- as FnOk, with no guard about -/
structure FnG (Pr : Program) (wd : World) (K : PySem.W.Frag) (mg : Str → Option Value) (bs : Heap) (CX : CXT) (k : Nat) (f : Addr) (fd : FuncData) (ps : List Str) (sp : Sp) : Prop where
  len : ∀ vs H Q E, sp vs H Q E → vs.length = ps.length
  run : ∀ (A : Around) (out : List Env) (s : Shared) (H : Hp) (ar : Args) (us : List Value) (vs : List V) (Q : VK) (E : XK), A.guards = some [] → Room k A → Env0 Pr wd K mg bs A out s H → BindsTo s fd ar (ps.zip us) → Vals vs us → sp vs H Q E →
    codeAny (model Pr wd) A (.call (.ref f) ar) (CR CX out Pr wd H s Q E) s
section
variable {X : Cx} {CX : CXT} {k : Nat} {f : Addr} {fd : FuncData} {ps : List Str} {sp : Sp} {dvs : List V} {ds : List Value} {E : XK}
theorem run_fnG {pins : List (Addr × Obj)} {σ : L2.St} {H : Hp} {s : Shared} {Q : VK} {us : List Value} {vs : List V} (F : FnG X.prog X.w X.K X.mg X.base CX k f fd ps sp) (gd : X.A.guards = some []) (hr : Room k X.A) (hb : Binds X.K fd ps ds) (hd : Vals dvs ds) (hx : Passes CX X E)
    (I : Inv X pins σ H s) (r : Vals vs us) (h : sp (vs ++ dvs) H Q E) : wpAny (model X.prog X.w) X.A (call (.ref f) us) (EP X pins σ Q) X.xe s := by
  have both : Vals (vs ++ dvs) (us ++ ds) := r.append hd
  have hl : (us ++ ds).length = ps.length := by rw [← both.length]; exact F.len _ _ _ _ h
  refine wpAny_call (codeAny_mono (F.run X.A X.stack s H ⟨us, []⟩ (us ++ ds) (vs ++ dvs) Q E gd hr I.env0 (hb s us I.kIn hl) both h) fun z s' hq => ?_)
  rcases z with e | fl
  · exact hx pins σ H s e s' I hq
  · cases fl <;> first | exact I.after hq | exact False.elim hq
theorem pe_callG {x : Str} {e : Expr} {es : List Expr} {t : TA} {p pos : Pos} (F : FnG X.prog X.w X.K X.mg X.base CX k f fd ps sp) (gd : X.A.guards = some []) (hr : Room k X.A) (hg : Gl X x) (hm : X.mg x = some (.ref f)) (hk : PySem.W.keepIn X.K (.ref f) = true) (hb : Binds X.K fd ps ds) (hd : Vals dvs ds) (hx : Passes CX X E)
    (ha : PA X (e :: es) t) (hdb : (x == ("__debug__" : Str)) = false) (he : starEach (e :: es) X.env = (false, eval e X.env) :: starEach es X.env) (hpl : (backTo pos (starEach es X.env)).any (·.1) = false) :
    PE X (.Call (.Name x p) (e :: es) [] pos) (tCall sp dvs E t) := by
  constructor
  intro pins s σ H Q I h
  exact wpAny_Call_Name_kw (ld_glob I hg hm (PySem.W.callWith_K (h₀ := X.base) I.ok.mod.kin hk (thn (ha.run pos pins s σ H _ I h) fun us s1 ⟨vs, H1, I1, r, q⟩ => ⟨I1.kIn, run_fnG F gd hr hb hd hx I1 r q⟩) he hpl) hdb)
theorem pe_callG0 {x : Str} {p pos : Pos} (F : FnG X.prog X.w X.K X.mg X.base CX k f fd ps sp) (gd : X.A.guards = some []) (hr : Room k X.A) (hg : Gl X x) (hm : X.mg x = some (.ref f)) (hk : PySem.W.keepIn X.K (.ref f) = true) (hb : Binds X.K fd ps ds) (hd : Vals dvs ds) (hx : Passes CX X E)
    (hdb : (x == ("__debug__" : Str)) = false) : PE X (.Call (.Name x p) [] [] pos) (tCall sp dvs E tNil) := by
  constructor
  intro pins s σ H Q I h
  exact wpAny_Call_Name_kw (ld_glob I hg hm (PySem.W.callWith_K0 I.kIn hk (run_fnG (us := []) F gd hr hb hd hx I .nil h)) hdb)
end
section
variable {Pr : Program} {wd : World} {K : PySem.W.Frag} {mg : Str → Option Value} {bs : Heap}
theorem fn_ofG {CX : CXT} {k : Nat} {f : Addr} {name qual : Str} {params : Arguments} {body : List Stmt} {scope : Scope} {dV kV doc pm cdv ct oc : Value} {an od : Option Addr}
    {osl : Array (Option Value)} {N ps : List Str} {sp : Sp} (lk : K.lookup f = some ⟨oc, od, .func (PySem.W.fnOf name qual params body scope dV kV doc pm an cdv ct), osl⟩) (hcd : PySem.W.codeIn K cdv qual = true) (S : FnScope N ps scope)
    (len : ∀ vs H Q E, sp vs H Q E → vs.length = ps.length)
    (hb : ∀ (A : Around) (out : List Env) (s : Shared) (H : Hp) (vs : List V) (Q : VK) (E : XK), A.guards = some [] → Room k (A.deeper (envOfC qual scope s.heap.objs.size f cdv)) → sp vs H Q E →
      ∃ t, PSs (cxOf CX Pr wd K mg bs N qual scope f cdv A out s H E) body t ∧ t { nx := fun _ H' => Q .non H', rt := Q } (start N vs) H) :
    FnG Pr wd K mg bs CX (k + 1) f (PySem.W.fnOf name qual params body scope dV kV doc pm an cdv ct) ps sp := by
  constructor
  · exact len
  intro A out s H ar us vs Q E gd hr e0 hbi r hsp
  have hl := len _ _ _ _ hsp
  have KX : K.In s.heap := e0.mod.kin.keeps fun b o e => (e0.bs b o e).1
  have lim : s.heap.NoLimit := e0.mod.nolimit.keeps fun b o e => (e0.bs b o e).1
  have kd : ∀ y ∈ ps.zip us, scope.names.lookup y.1 = some .local ∨ (scope.names.lookup y.1 = some .cell ∧ ((cellsFrom (s.heap.objs.size + 1) scope.names []).lookup y.1).isSome = true) := by
    intro y hy
    rcases S.par y.1 (List.of_mem_zip (show (y.1, y.2) ∈ ps.zip us from hy)).1 with q | q
    · exact Or.inl q
    · exact Or.inr ⟨q, PySem.W.cellsFrom_some _ _ _ (Or.inl q)⟩
  refine codeAny_call_function hr.depth (KX _ _ lk) rfl S.co S.gen rfl (PySem.W.codeRec_of KX hcd) (hbi _ _ _ _ (wpAny_newFunctionEnv_cells S.kind kd fun env he s1 x => ?_))
  subst he
  refine ⟨lim.keeps x.toInCall.keep, codeAny_func ?_⟩
  obtain ⟨t, ht, hq⟩ := hb A out s H vs Q E gd (hr.deeper _) hsp
  have I : Inv (cxOf CX Pr wd K mg bs N qual scope f cdv A out s H E) [] (start N vs) H s1 := inv_start S hr.hd e0 hl r x
  have fin : ∀ {σ' : L2.St} {H' : Hp} {v : V} {u : Value} {s' : Shared}, Inv (cxOf CX Pr wd K mg bs N qual scope f cdv A out s H E) [] σ' H' s' → RelV v u → Q v H' → CE out Pr wd H s Q u s' :=
    fun {σ' H' v u s'} J rv q => ⟨v, H', J.os, J.bare, J.base, J.hok, rv, q⟩
  refine wpAny_mono (ht.run [] s1 (start N vs) H _ I hq) (fun fl s' hs => ?_) fun e s' hs => hs
  rcases fl with u | _ | _ | _
  all_goals first
    | (obtain ⟨v, σ', H', J, rv, q⟩ := hs; exact fin J rv q)
    | (obtain ⟨σ', H', J, q⟩ := hs; exact fin (v := V.non) (u := Value.none) J rfl q)
    | (obtain ⟨_, _, _, q⟩ := hs; exact False.elim q)
theorem fun_okG {x qual : Str} {st : Stmt} {f : Addr} {fd : FuncData} {N ps : List Str} {k : Nat} {sp : Sp} (F : Fun K x qual st f fd) (S : FnScope N ps (defScope st)) (len : ∀ vs H Q E, sp vs H Q E → vs.length = ps.length)
    (hb : ∀ (cdv : Value) (A : Around) (out : List Env) (s : Shared) (H : Hp) (vs : List V) (Q : VK) (E : XK), A.guards = some [] → Room k (A.deeper (envOfC qual (defScope st) s.heap.objs.size f cdv)) → sp vs H Q E →
      ∃ t, PSs (cxOf CX0 Pr wd K mg bs N qual (defScope st) f cdv A out s H E).nox (defBody st) t ∧ t { nx := fun _ H' => Q .non H', rt := Q } (start N vs) H) : FnG Pr wd K mg bs CX0 (k + 1) f fd ps sp := by
  obtain ⟨oc, od, kV, doc, pm, an, cdv, ct, osl, rfl, lk, hcd⟩ := F.ex
  refine fn_ofG lk hcd S len fun A out s H vs Q E gd hr hsp => ?_
  obtain ⟨t, h, q⟩ := hb cdv A out s H vs Q E gd hr hsp
  exact ⟨t, h.nox, q⟩
/-- the law's own call -/
theorem law_callG {mb : Str → Option Value} {CX : CXT} {k : Nat} {fa a : Addr} {fd : FuncData} {x : Str} {sp : Sp} {s1 : Shared} {vs : List Value} {ns : List Int}
    (KX : K.In s1.heap) (hns : s1.heap.Ns mainGlobals mg) (hb : s1.heap.Ns builtinsNs mb) (hbb : ∀ x : Str, x ≠ "__name__" → mb x = bootBuiltins x) (lim : s1.heap.NoLimit) (hg : s1.gens = #[])
    (ha : s1.heap.get? a = some { cls := .type "list", data := .seq vs.toArray }) (hi : IntsAre vs ns) (hl : ns.length ≤ sizeLine) (hr : Room k callerA)
    (F : ∀ base : Heap, K.In base → base.Ns mainGlobals mg → FnG Pr wd K mg base CX k fa fd [x] sp) (bind : ∀ (s : Shared) (u : Value), BindsTo s fd ⟨[u], []⟩ [(x, u)])
    (hsp : ∀ H : Hp, Only H → SqL K H a (ns.map V.int) → sp [.ref a] H (fun v _ => v = .bl true) fun _ _ _ => False)
    (hCX : ∀ H e s', CX [] H s1 (fun _ _ _ => False) e s' → False) :
    codeAny (model Pr wd) callerA (.call (.ref fa) ⟨[.ref a], []⟩) (fun r s' => r = .ok (.ret (.bool true)) ∧ OldK s1.heap s'.heap ∧ s'.os = s1.os ∧ AllBare s'.gens) s1 := by
  have rv := vals_ints hi
  have lenV := hi.length
  have core : ∀ H : Hp, Only H → SqL K H a (ns.map V.int) → HOk Pr wd H s1.heap → (∀ b, H b ≠ none → b = a) → (H a ≠ none → K.lookup a = none) →
      codeAny (model Pr wd) callerA (.call (.ref fa) ⟨[.ref a], []⟩) (fun r s' => r = .ok (.ret (.bool true)) ∧ OldK s1.heap s'.heap ∧ s'.os = s1.os ∧ AllBare s'.gens) s1 := by
    intro H hO hS hok onlyA hK
    have at_ : ∀ {b : Addr} {o : Obj}, s1.heap.get? b = some o → H b = none → (hidT s1.heap H).get? b = some o := fun e n => hidT_get e n
    have freeD : ∀ {b : Addr} {o : Obj} {es : Array DictEntry} {ep : Nat}, s1.heap.get? b = some o → o.data = .dict es ep → H b = none := by
      intro b o es ep e d
      by_cases q : H b = none
      · exact q
      · obtain rfl : b = a := onlyA b q
        rw [ha] at e; cases e
        exact nomatch (show Data.seq vs.toArray _ = Data.dict es ep from d)
    have nsK : ∀ {b : Addr} {m : Str → Option Value}, s1.heap.Ns b m → (hidT s1.heap H).Ns b m := by
      rintro b m ⟨o, es, ep, e, d, r⟩
      exact ⟨o, es, ep, at_ e (freeD e d), d, r⟩
    have inK : K.In (hidT s1.heap H) := by
      intro b o e
      refine at_ (KX b o e) ?_
      by_cases q : H b = none
      · exact q
      · obtain rfl : b = a := onlyA b q
        rw [hK q] at e; cases e
    have md : Mod K mg (hidT s1.heap H) := ⟨inK, nsK hns, ⟨mb, nsK hb, hbb⟩, let ⟨mc, z1, z2⟩ := lim; ⟨mc, nsK z1, z2⟩⟩
    have en : Env0 Pr wd K mg (hidT s1.heap H) callerA [] s1 H := ⟨rfl, md, fun b o e => of_hidT e, Nat.le_of_eq (hidT_size _ _), trivial, fun b hb => (nomatch (show b ∈ ([] : List Addr) from hb)), hok, .of_eq hg⟩
    refine codeAny_mono ((F _ inK (nsK hns)).run callerA [] s1 H ⟨[.ref a], []⟩ [.ref a] [.ref a] _ _ rfl hr en (bind s1 (.ref a)) (.cons rfl .nil) (hsp H hO hS)) fun z s' h => ?_
    rcases z with e | fl
    · exact (hCX H e s' h).elim
    · cases fl
      case ret u =>
        obtain ⟨v, H', os, bare, un, hok', r', q⟩ := h
        obtain rfl : v = .bl true := q
        obtain rfl : u = Value.bool true := r'
        refine ⟨rfl, OldK.of_keep ?_, os, bare⟩
        intro b o e
        by_cases q : H b = none
        · exact un.keep b o e q (fun z => nomatch (show b ∈ ([] : List Addr) from z)) (by simp)
        · rcases hO b with z | ⟨ob, xs, z⟩
          · exact absurd z q
          · have z2 := un.frzs b ob _ z
            have e1 := (hok b _ z).1
            have e2 := (hok' b _ z2).1
            rw [e] at e1; cases e1; exact e2
      all_goals exact False.elim h
  by_cases hk : K.lookup a = none
  · refine core (fun b => if b = a then some (.frz { cls := .type "list", data := .seq vs.toArray } (.lst (ns.map V.int))) else none) (fun b => ?_) (.inl (.inr ⟨{ cls := .type "list", data := .seq vs.toArray }, if_pos rfl⟩)) (fun b u z => ?_) (fun b z => ?_) fun _ => hk
    · by_cases q : b = a
      · exact Or.inr ⟨_, _, if_pos q⟩
      · exact Or.inl (if_neg q)
    · by_cases q : b = a
      · obtain z' := (if_pos q).symm.trans z
        cases z'; subst q
        exact ⟨ha, by rw [List.length_map]; exact hl, vs, _, rv, ha⟩
      · exact nomatch (if_neg q).symm.trans z
    · by_cases q : b = a
      · exact q
      · exact absurd (if_neg q) z
  · obtain ⟨o, hk⟩ : ∃ o, K.lookup a = some o := by
      cases e : K.lookup a with
      | none => exact absurd e hk
      | some o => exact ⟨o, rfl⟩
    have e := KX a o hk
    rw [ha] at e; cases e
    exact core (fun _ => none) (fun _ => Or.inl rfl) (Or.inr ⟨_, vs.toArray, _, hk, rfl, rfl, rfl, by rw [List.size_toArray, lenV]; exact hl, by simpa using rv⟩) (fun b u z => (nomatch (show (none : Option HO) = some u from z))) (fun b z => absurd rfl z) fun z => absurd rfl z
end
theorem walk_ofG {l : PySem.W.OpenLaw} {n k : Nat} {q : Program} {loose : List Str} {XP : (Str → Option Value) → Heap → Prop} {YP : World → Heap → Prop} {d : DefRec} {K : Params → PySem.W.Frag} {CX : World → CXT} {sp : World → Sp} {x : Str}
    (hn : l.most = some n) (hn2 : n ≤ sizeLine) (hdf : d.params.defaults = []) (hr : Room k callerA)
    (hY : ∀ (w : World) (h : Heap), YP w h → (K w.params).In h)
    (F : ∀ (w : World) (mg : Str → Option Value) (fa : Addr) (h : Heap), (K w.params).In h → h.Ns mainGlobals mg → mg d.name = some (.ref fa) →
      ∃ fd : FuncData, (∀ (s : Shared) (u : Value), BindsTo s fd ⟨[u], []⟩ [(x, u)]) ∧ ∀ base : Heap, (K w.params).In base → base.Ns mainGlobals mg → FnG l.prog w (K w.params) mg base (CX w) k fa fd [x] (sp w))
    (hsp : ∀ (w : World) (H : Hp) (a : Addr) (ns : List Int), ns.length ≤ n → Only H → SqL (K w.params) H a (ns.map V.int) → sp w [.ref a] H (fun v _ => v = .bl true) fun _ _ _ => False)
    (hCX : ∀ (w : World) (H : Hp) (s : Shared) (e : Value) (s' : Shared), CX w [] H s (fun _ _ _ => False) e s' → False) :
    PySem.W.WalkO q loose XP YP l.row.toRowW d [] (fun f vs => PySem.call f vs) := by
  refine Att.attach_call hn hdf ?_
  intro w s0 s1 mg mb fa o pm cd doc a vs ns G Y ho hd hcd hmg hobj hints hlen hg
  obtain ⟨fd, hb, hF⟩ := F w mg fa _ (hY w _ Y) G.T.g hmg
  exact law_callG (hY w _ Y) G.T.g G.T.b G.T.builtins G.T.nolimit hg hobj hints (Nat.le_trans hlen hn2) hr hF hb (fun H hO hS => hsp w H a ns hlen hO hS) fun H e s' => hCX w H s1 e s'
end M61

set_option Elab.async false
set_option linter.all false
set_option autoImplicit false
set_option maxRecDepth 100000
/-! N3: repr of data. -/
namespace M61
open PySem PySem.Spec PyProof.Rows L2
section
variable {X : Cx} {pins : List (Addr × Obj)} {σ : L2.St} {H F : Hp} {s : Shared}
mutual
theorem reads_of (I : Inv X pins σ H s) (sF : Same F H) : ∀ {v : V} {d : D}, Rep X.K F v d → d.pure = true → ∀ u, RelV v u → ∃ as, Reads s.heap u d.py as
  | _, _, .non, _, u, r => ⟨[], by obtain rfl : u = Value.none := r; exact .none⟩
  | _, _, .bl b, _, u, r => ⟨[], by obtain rfl : u = Value.bool b := r; exact .bool b⟩
  | _, _, .int i, _, u, r => ⟨[], by obtain ⟨t, rfl⟩ := (show ∃ t, u = Value.int i t from r); exact .int i t⟩
  | _, _, .str x, _, u, r => ⟨[], by obtain ⟨t, rfl⟩ := (show ∃ t, u = Value.str x t from r); exact .str x t⟩
  | _, _, .tup (a := a) (xs := xs) h rs, p, u, r => by
    obtain rfl : u = Value.ref a := r
    obtain ⟨its, rv, ⟨o, h1, h2, n, h3⟩, _⟩ := I.tuple (sqT_same sF h)
    obtain ⟨as, q⟩ := reads_all I sF rs p _ rv
    exact ⟨as, .tuple h1 h2 h3 (by simpa using q)⟩
  | _, _, .lst (a := a) (xs := xs) h rs, p, u, r => by
    obtain rfl : u = Value.ref a := r
    obtain ⟨its, rv, pl, _⟩ := I.list (.of (sF _ _ h))
    obtain ⟨o, h1, h2, n, h3⟩ := pl.isList
    obtain ⟨as, q⟩ := reads_all I sF rs p _ rv
    exact ⟨_, .list h1 h2 h3 (by simpa using q)⟩
  | _, _, .scr _ _, p, _, _ => nomatch p
  | _, _, .ref _, p, _, _ => nomatch p
theorem reads_all (I : Inv X pins σ H s) (sF : Same F H) : ∀ {vs : List V} {ds : List D}, Reps X.K F vs ds → D.pures ds = true → ∀ us, Vals vs us → ∃ as, ReadsAll s.heap us (D.pys ds) as
  | _, _, .nil, _, us, r => by cases r; exact ⟨[], .nil⟩
  | _, _, .cons (d := d) (ds := ds) r1 rs, p, us, r => by
    obtain ⟨p1, p2⟩ := Bool.and_eq_true_iff.mp (show (d.pure && D.pures ds) = true from p)
    cases r with
    | cons u1 ur =>
      obtain ⟨as, q1⟩ := reads_of I sF r1 p1 _ u1
      obtain ⟨bs, q2⟩ := reads_all I sF rs p2 _ ur
      exact ⟨_, .cons q1 q2⟩
end
/-- what repr shows -/
structure D.Shw (d : D) : Prop where
  p : d.pure = true
  s : d.py.showable = true
  n : d.py.hasDict = false
  e : d.py.depth ≤ 64
  z : d.py.shown.length ≤ sizeLine
end
section
variable {X : Cx}
theorem nu3 (i j k : Int) : nuMin3 (.int i) (.int j) (.int k) = some (.int (min (min i j) k)) := by
  have e : ∀ x y : Int, nuMin2 (.int x) (.int y) = some (.int (min x y)) := fun x y => by
    show some (if decide (y < x) = true then V.int y else V.int x) = _
    by_cases h : y < x
    · rw [if_pos (decide_eq_true h), Int.min_eq_right (by omega)]
    · rw [if_neg (by simpa using h), Int.min_eq_left (by omega)]
  show (nuMin2 (.int i) (.int j)).bind (fun m => nuMin2 m (.int k)) = _
  rw [e]
  exact e _ _
theorem c_min3 (hc : X.calm = true) : CallR X (.builtin "min") (liftB X.K fun C ds P => bltR C .min3 ds P) := by
  intro pins s σ H xs us Q I r ⟨F, ds, C, P, ce, rs, m, k⟩
  have sF := ce.fh
  unfold bltR at m
  dsimp only at m
  split at m
  all_goals first | (rename_i hh; cases hh; done) | skip
  · rename_i i j l _
    cases rs with
    | cons r1 rr =>
      cases rr with
      | cons r2 rr =>
        cases rr with
        | cons r3 rr =>
          cases rr; cases r1; cases r2; cases r3
          exact call_min3Nu hc pins s σ H _ us Q I r ⟨_, _, _, _, rfl, nu3 i j l, k _ F _ H (Grow.refl sF) (.int _) m⟩
  · exact m.elim
theorem pures_at : ∀ {xs : List D}, D.pures xs = true → ∀ x ∈ xs, x.pure = true
  | [], _, _, h => absurd h (by simp)
  | x :: xs, h, y, hy => by
    obtain ⟨h1, h2⟩ := Bool.and_eq_true_iff.mp (show (D.pure x && D.pures xs) = true from h)
    rcases List.mem_cons.mp hy with rfl | q
    · exact h1
    · exact pures_at h2 y q
theorem seq_data {pins : List (Addr × Obj)} {σ : L2.St} {H : Hp} {s : Shared} {F : Hp} {C : CM} {v : V} {d : D} {xs : List D} (I : L2.Inv X pins σ H s) (ce : Cells X.K F H C) (r : Rep X.K F v d) (h1 : seqD C d = some xs) :
    ∃ a vs, ∃ its : List Value, v = .ref a ∧ Reps X.K F vs xs ∧ Vals vs its ∧ (s.heap.IsList a its.toArray ∨ s.heap.IsTuple a its.toArray) := by
  have sF := ce.fh
  unfold seqD at h1
  split at h1
  · cases h1
    obtain ⟨a, vs, rfl, ha, ra⟩ := r.tup_inv
    obtain ⟨its, rv, ht, _⟩ := I.tuple (sqT_same sF ha)
    exact ⟨a, vs, its, rfl, ra, rv, .inr ht⟩
  · cases h1
    obtain ⟨a, vs, rfl, ha, ra⟩ := r.lst_inv
    obtain ⟨its, rv, ht, _⟩ := I.list (.of (sF _ _ ha))
    exact ⟨a, vs, its, rfl, ra, rv, .inl ht.isList⟩
  · cases r
    unfold cellL at h1
    split at h1
    · rename_i hc
      cases h1
      obtain ⟨vs, ha, ra⟩ := (ce.cel _ _ hc).1
      obtain ⟨its, rv, ht, _⟩ := I.list (.of ha)
      exact ⟨_, vs, its, rfl, ra, rv, .inl ht.isList⟩
    · cases h1
  · cases h1
theorem c_str : CallR X (.type "str") (liftB X.K fun C ds P => bltR C .str ds P) := by
  intro pins s σ H xs us Q I r ⟨F, ds, C, P, ce, rs, m, k⟩
  have sF := ce.fh
  unfold bltR at m
  dsimp only at m
  split at m
  all_goals first | (rename_i hh; cases hh; done) | skip
  · cases rs with
    | cons r1 rr =>
      cases rr; cases r1
      exact call_str_int pins s σ H _ us Q I r ⟨_, rfl, m.1, k _ F _ H (Grow.refl sF) (.str _) m.2⟩
  · exact m.elim
theorem c_mind (hc : X.calm = true) (hr : Room 0 X.A) : CallR X (.builtin "min") (liftB X.K fun C ds P => bltR C .mind ds P) := by
  intro pins s σ H xs us Q I r ⟨F, ds, C, P, ce, rs, m, k⟩
  have sF := ce.fh
  unfold bltR at m
  dsimp only at m
  split at m
  all_goals first | (rename_i hh; cases hh; done) | skip
  · cases rs with
    | cons r1 rr =>
      cases rr
      obtain ⟨x, ys, h1, h2, h3, h4, p⟩ := m
      obtain ⟨a, vs, its, rfl, rv, rw', hl⟩ := seq_data I ce r1 h1
      rw [Vals.ref1 r]
      obtain ⟨as, hR⟩ := reads_all I sF rv h2 its rw'
      have hD : X.A.units + 1 + PyData.depthAll (D.pys (x :: ys)) < cLine := by
        have := hr.un
        omega
      have fin : ∀ (i : Nat) (v : Value) (h' : Heap) (tk : Nat) (bs : List Addr), its.toArray[i]? = some v → Reads h' v (PySem.W.minD x.py (D.pys ys)) bs → (∀ b o, s.heap.get? b = some o → h'.get? b = some o) → EP X pins σ Q v { s with heap := h', toks := tk } := fun i v h' tk bs hv rd hk => by
        have hv2 : its[i]? = some v := by simpa using hv
        obtain ⟨w, hw, rel⟩ : ∃ w, vs[i]? = some w ∧ RelV w v := by
          cases hw : vs[i]? with
          | none =>
            have := rw'.none_of hw
            rw [hv2] at this; cases this
          | some w =>
            obtain ⟨u, hu, rel⟩ := rw'.get hw
            rw [hv2] at hu
            cases hu
            exact ⟨w, rfl, rel⟩
        obtain ⟨d, hd, rd1⟩ := rv.get hw
        have hm : d ∈ x :: ys := List.mem_of_getElem? hd
        have pd : d.pure = true := pures_at h2 d hm
        obtain ⟨cs, rd2⟩ := reads_of I sF rd1 pd v rel
        have e := (reads_det (h := h') (h' := h') (fun b o e _ => e) rd (PySem.W.reads_keeps hk rd2)).1
        exact ⟨w, H, I.kept hk, rel, k _ F _ H (Grow.refl sF) rd1 (p d hm e)⟩
      rcases hl with hl | hl
      · exact PySem.W.min_list_data (I.ok.hd hc) hl (by simpa [D.pys] using hR) (by simpa [D.pys] using h3) (by simpa [D.pys] using hD) fin
      · exact PySem.W.min_tuple_data (I.ok.hd hc) hl (by simpa [D.pys] using hR) (by simpa [D.pys] using h3) (by simpa [D.pys] using hD) fin
  · exact m.elim
section
variable {prog : Program} {w : World} {A : Around} {s : Shared} {E : Value → Shared → Prop}
/-- the least of two alike data: the one that is less, else the first -/
theorem min_two_data {a b : Value} {x y : PyData} {as : List Addr} {Q : Value → Shared → Prop} (hh : A.handled = none) (hr : ReadsAll s.heap [a, b] [x, y] as) (ha : PySem.W.AlikeAll [x, y]) (hu : A.units + 1 + PyData.depthAll [x, y] < cLine)
    (h : ∀ (i : Nat) v h' tk bs, [a, b][i]? = some v → Reads h' v (PySem.W.minD x [y]) bs → (∀ c o, s.heap.get? c = some o → h'.get? c = some o) → Q v { s with heap := h', toks := tk }) :
    wpAny (model prog w) A (call (.builtin "min") [a, b]) Q E s := by
  have hname : (toString "min" ++ toString ".loop" : String) = "min.loop" := by decide
  have hT : (s.heap.push { cls := .type "tuple", data := .seq #[a, b] }).IsTuple s.heap.objs.size #[a, b] := ⟨_, Heap.get?_push_size _ rfl, rfl, 0, rfl⟩
  have hp : ∀ c o, s.heap.get? c = some o → (s.heap.push { cls := .type "tuple", data := .seq #[a, b] }).get? c = some o := fun c o e => Heap.get?_push_of_some _ e
  refine call_function_tree F.kind_min F.plain_min F.entry_min (F.args_min2 _ _) ?_
  show wpAny _ A.in1 (Builtin.Builtins.bindParams "min" ["key", "default"] 0 ⟨[], []⟩ >>= _) _ _ s
  refine wpAny_bind (wpAny_of_eq (show Builtin.Builtins.bindParams "min" ["key", "default"] 0 ⟨[], []⟩ = pure [none, none] from rfl) ?_)
  show wpAny _ A.in1 (newTuple [a, b] >>= _) _ _ s
  refine wpAny_bind (wpAny_newObj_type ?_)
  have hr2 : ReadsAll (s.heap.push { cls := .type "tuple", data := .seq #[a, b] }) [a, b] [x, y] as := ReadsAll.keeps hp hr
  refine wpAny_bind (PySem.W.iter_tupleW (A := A.in1) hh hT fun s₂ e W st hfp hw hk => ?_)
  refine wpAny_bind (wpAny_newObj_type ?_)
  have hSf : s₂.heap.objs.size ∉ [_, s.heap.objs.size] := fun hm => Nat.lt_irrefl _ (hfp _ hm)
  rw [hname]
  refine wpAny_pure ⟨plainId_quiet F.plain_min_loop _, codeAny_min_loop_firstH W _ hw _ (PySem.W.cmpIn_lt (A := A.in1) hr2 ha (by show A.units + 1 + _ < _; exact hu)) s₂.heap.objs.size hSf (fresh_in hk) _ (by show 0 < 2; decide) (fun b o e => Heap.get?_push_of_some _ (hk b o e)) (W.frame 0 s₂ _ s₂.toks st (Nat.le_refl _) fun b _ o e => Heap.get?_push_of_some _ e) (Heap.get?_push_size _ rfl) fun v s' hP m => ?_⟩
  obtain ⟨h', tk, rfl, hk'⟩ := PySem.W.moved_old e rfl (Moved.drop_new (tk := s₂.toks) m (Nat.le_refl _))
  obtain ⟨bs, r, _, _, _⟩ := PySem.W.readsAll_atA hr2 _ v hP
  have e2 := (PySem.W.argBest_fold PySem.W.dataLt PyData.none x [y] 1 (Nat.le_refl _)).2
  have hkk : ∀ c o, s.heap.get? c = some o → h'.get? c = some o := fun c o e => hk' c o (hp c o e)
  exact h (argBest _ 1) v h' tk bs (by simpa using hP) (PySem.W.reads_keeps hk' (by unfold PySem.W.minD; rw [show [y] = [y].take 1 from rfl, ← e2]; exact r)) hkk
end
theorem c_min2d (hc : X.calm = true) (hr : Room 0 X.A) : CallR X (.builtin "min") (liftB X.K fun C ds P => bltR C .min2d ds P) := by
  intro pins s σ H xs us Q I r ⟨F, ds, C, P, ce, rs, m, k⟩
  have sF := ce.fh
  unfold bltR at m
  dsimp only at m
  split at m
  all_goals first | (rename_i hh; cases hh; done) | skip
  · rename_i x y _
    obtain ⟨h2, h3, h4, p⟩ := m
    have hl2 := rs.length
    obtain ⟨as, hR⟩ := reads_all I sF rs h2 us r
    have hlu := r.length
    obtain ⟨u1, u2, rfl⟩ : ∃ u1 u2, us = [u1, u2] := by
      rw [hl2] at hlu
      match us, hlu with
      | [u1, u2], _ => exact ⟨u1, u2, rfl⟩
    have hD : X.A.units + 1 + PyData.depthAll [x.py, y.py] < cLine := by
      have := hr.un
      have : PyData.depthAll [x.py, y.py] ≤ 64 := h4
      omega
    refine min_two_data (I.ok.hd hc) hR h3 hD fun i v h' tk bs hv rd hk => ?_
    obtain ⟨w, hw, rel⟩ : ∃ w, xs[i]? = some w ∧ RelV w v := by
      cases hw : xs[i]? with
      | none =>
        have := r.none_of hw
        rw [hv] at this; cases this
      | some w =>
        obtain ⟨u, hu, rel⟩ := r.get hw
        rw [hv] at hu
        cases hu
        exact ⟨w, rfl, rel⟩
    obtain ⟨d, hd, rd1⟩ := rs.get hw
    have hm : d ∈ [x, y] := List.mem_of_getElem? hd
    have pd : d.pure = true := pures_at h2 d hm
    obtain ⟨cs, rd2⟩ := reads_of I sF rd1 pd v rel
    have e := (reads_det (h := h') (h' := h') (fun b o e _ => e) rd (PySem.W.reads_keeps hk rd2)).1
    exact ⟨w, H, I.kept hk, rel, k _ F _ H (Grow.refl sF) rd1 (p d hm e)⟩
  · exact m.elim
theorem c_maxd (hc : X.calm = true) (hr : Room 0 X.A) : CallR X (.builtin "max") (liftB X.K fun C ds P => bltR C .maxd ds P) := by
  intro pins s σ H xs us Q I r ⟨F, ds, C, P, ce, rs, m, k⟩
  have sF := ce.fh
  unfold bltR at m
  dsimp only at m
  split at m
  all_goals first | (rename_i hh; cases hh; done) | skip
  · cases rs with
    | cons r1 rr =>
      cases rr
      obtain ⟨x, ys, h1, h2, h3, h4, p⟩ := m
      obtain ⟨a, vs, its, rfl, rv, rw', hl⟩ := seq_data I ce r1 h1
      rw [Vals.ref1 r]
      obtain ⟨as, hR⟩ := reads_all I sF rv h2 its rw'
      have hD : X.A.units + 1 + PyData.depthAll (D.pys (x :: ys)) < cLine := by
        have := hr.un
        omega
      have fin : ∀ (i : Nat) (v : Value) (h' : Heap) (tk : Nat) (bs : List Addr), its.toArray[i]? = some v → Reads h' v (PySem.W.maxD x.py (D.pys ys)) bs → (∀ b o, s.heap.get? b = some o → h'.get? b = some o) → EP X pins σ Q v { s with heap := h', toks := tk } := fun i v h' tk bs hv rd hk => by
        have hv2 : its[i]? = some v := by simpa using hv
        obtain ⟨w, hw, rel⟩ : ∃ w, vs[i]? = some w ∧ RelV w v := by
          cases hw : vs[i]? with
          | none =>
            have := rw'.none_of hw
            rw [hv2] at this; cases this
          | some w =>
            obtain ⟨u, hu, rel⟩ := rw'.get hw
            rw [hv2] at hu
            cases hu
            exact ⟨w, rfl, rel⟩
        obtain ⟨d, hd, rd1⟩ := rv.get hw
        have hm : d ∈ x :: ys := List.mem_of_getElem? hd
        have pd : d.pure = true := pures_at h2 d hm
        obtain ⟨cs, rd2⟩ := reads_of I sF rd1 pd v rel
        have e := (reads_det (h := h') (h' := h') (fun b o e _ => e) rd (PySem.W.reads_keeps hk rd2)).1
        exact ⟨w, H, I.kept hk, rel, k _ F _ H (Grow.refl sF) rd1 (p d hm e)⟩
      rcases hl with hl | hl
      · exact PySem.W.max_list_data (I.ok.hd hc) hl (by simpa [D.pys] using hR) (by simpa [D.pys] using h3) (by simpa [D.pys] using hD) fin
      · exact PySem.W.max_tuple_data (I.ok.hd hc) hl (by simpa [D.pys] using hR) (by simpa [D.pys] using h3) (by simpa [D.pys] using hD) fin
  · exact m.elim
theorem c_repr (gd : X.A.guards = some []) (r0 : Room 0 X.A) : CallR X (.builtin "repr") (liftB X.K fun C ds P => bltR C .repr ds P) := by
  intro pins s σ H xs us Q I r ⟨F, ds, C, P, ce, rs, m, k⟩
  have sF := ce.fh
  obtain ⟨d, hds, hp, hs, hn, he, hz, hm⟩ : ∃ d, ds = [d] ∧ d.pure = true ∧ d.py.showable = true ∧ d.py.hasDict = false ∧ d.py.depth ≤ 64 ∧ d.py.shown.length ≤ sizeLine ∧ P (.str d.py.shown) := by
    rcases ds with _ | ⟨d, _ | ⟨e, r⟩⟩
    · exact m.elim
    · obtain ⟨a1, a2, a3, a4, a5, a6⟩ := (show d.pure = true ∧ d.py.showable = true ∧ d.py.hasDict = false ∧ d.py.depth ≤ 64 ∧ d.py.shown.length ≤ sizeLine ∧ P (.str d.py.shown) from m)
      exact ⟨d, rfl, a1, a2, a3, a4, a5, a6⟩
    · exact (show False from m).elim
  subst hds
  cases rs with
  | cons r1 rr =>
    cases rr
    obtain ⟨u, rfl, ru⟩ : ∃ u, us = [u] ∧ RelV _ u := by
      cases r with
      | cons h t => cases t; exact ⟨_, rfl, h⟩
    have un := r0.un
    obtain ⟨as, q⟩ := reads_of I sF r1 hp u ru
    have fin : ∀ (h' : Heap) (t : Tok) (tk : Nat), (∀ b o, s.heap.get? b = some o → h'.get? b = some o) → EP X pins σ Q (.str d.py.shown t) { s with heap := h', toks := tk } := fun h' t tk hk =>
      ⟨.str d.py.shown, H, I.kept hk, ⟨t, rfl⟩, k _ F _ H (Grow.refl sF) (.str _) hm⟩
    cases r1 with
    | non =>
      obtain rfl : u = Value.none := ru
      exact PySem.P.repr_of_none (fin s.heap _ _ fun _ _ e => e)
    | bl b =>
      obtain rfl : u = Value.bool b := ru
      exact PySem.P.repr_of_bool (by have := fin s.heap s.toks (s.toks + 1) fun _ _ e => e; cases b <;> exact this)
    | int i =>
      obtain ⟨t, rfl⟩ := (show ∃ t, u = Value.int i t from ru)
      exact PySem.P.repr_of_int (of_decide_eq_true (show decide (i.natAbs.log2 < 1920) = true from hs)) (fin s.heap _ _ fun _ _ e => e)
    | str x =>
      obtain ⟨t, rfl⟩ := (show ∃ t, u = Value.str x t from ru)
      exact PySem.P.repr_of_str (fin s.heap _ _ fun _ _ e => e) hz
    | tup h rs =>
      obtain rfl : u = Value.ref _ := ru
      exact repr_of_reads' q hs (fun e => by rw [hn] at e; cases e) gd (by omega) (fun _ _ e => e) (fun h' t tk hk => fin h' t tk hk) hz
    | lst h rs =>
      obtain rfl : u = Value.ref _ := ru
      exact repr_of_reads' q hs (fun e => by rw [hn] at e; cases e) gd (by omega) (fun _ _ e => e) (fun h' t tk hk => fin h' t tk hk) hz
    | scr _ _ => exact nomatch hp
    | ref _ => exact nomatch hp
    | dic _ _ => exact nomatch hp
end
end M61

set_option Elab.async false
set_option linter.all false
set_option autoImplicit false
set_option maxRecDepth 100000
/-! M4a: how the relation goes on. -/
namespace M61
open PySem PySem.Spec PyProof.Rows L2
section
variable {K : PySem.W.Frag} {B : Base} {F F' H H' : Hp} {σ σ' : L2.St} {ρ ρ' : Rho} {C C' : CM}
theorem set_get {α : Type} {l : List α} {i j : Nat} {x y : α} (h : (l.set i x)[j]? = some y) : (i = j ∧ y = x ∧ i < l.length) ∨ (i ≠ j ∧ l[j]? = some y) := by
  rw [List.getElem?_set] at h
  split at h
  · rename_i q
    split at h
    · rename_i q2
      cases h
      exact .inl ⟨q, rfl, q2⟩
    · cases h
  · rename_i q
    exact .inr ⟨q, h⟩
/-- an own list changes -/
theorem Rel.mutOwn (R : Rel K B F σ H ρ C) {i : Nat} {xs xs' : List D} {a : Addr} {vs' : List V} (h : ρ[i]? = some (some (Dv.own xs))) (hs : σ[i]? = some (some (V.ref a))) (r : Reps K F vs' xs') :
    Rel K B F σ (upd H a (HO.lst vs')) (ρ.set i (some (Dv.own xs'))) C := by
  obtain ⟨a', vs, e, hl, r0, n1, n2, n3⟩ := R.own i xs h
  rw [hs] at e
  cases e
  have ne : ∀ {b : Addr} {o : HO}, F b = some o → b ≠ a := fun q z => by rw [z, n1] at q; cases q
  have neC : ∀ {b : Addr} {c : Cell}, C b = some c → b ≠ a := fun q z => by rw [z, n2] at q; cases q
  have neB : ∀ {b : Addr} {o : HO}, B.H b = some o → b ≠ a := fun q z => by rw [z, n3] at q; cases q
  refine ⟨by rw [List.length_set]; exact R.len, ⟨fun b o q => by rw [upd_ne (ne q)]; exact R.ce.fh b o q, fun b c q => ?_⟩, ⟨R.fr.ff, R.fr.fnew, fun b o q q2 => by rw [upd_ne (neB q)]; exact R.fr.frame b o q q2, R.fr.cnew, fun b o q => by rw [upd_ne (neB q)]; exact R.fr.stay b o q⟩,
    fun j d q => ?_, fun j ys q => ?_, fun j k ys zs b n q1 q2 q3 => ?_⟩
  · obtain ⟨q1, q2⟩ := R.ce.cel b c q
    exact ⟨q1.mono (Same.refl _) (fun o z => by rw [upd_ne (neC q)]; exact z), q2⟩
  · rcases set_get q with ⟨_, z, _⟩ | ⟨_, q⟩
    · cases z
    · exact R.dat j d q
  · rcases set_get q with ⟨rfl, z, _⟩ | ⟨nij, q⟩
    · cases z
      exact ⟨a, vs', hs, upd_same, r, n1, n2, n3⟩
    · obtain ⟨b, ws, e1, e2, e3, e4, e5, e6⟩ := R.own j ys q
      have nb : b ≠ a := fun z => by subst z; exact R.dis i j _ _ b nij h q hs e1
      exact ⟨b, ws, e1, by rw [upd_ne nb]; exact e2, e3, e4, e5, e6⟩
  · have g : ∀ {j : Nat} {ys : List D}, (ρ.set i (some (Dv.own xs')))[j]? = some (some (Dv.own ys)) → ∃ ys', ρ[j]? = some (some (Dv.own ys')) := fun {j ys} q => by
      rcases set_get q with ⟨rfl, z, _⟩ | ⟨_, q⟩
      · exact ⟨_, h⟩
      · exact ⟨_, q⟩
    obtain ⟨y1, g1⟩ := g q1
    obtain ⟨y2, g2⟩ := g q2
    exact R.dis j k y1 y2 b n g1 g2 q3
theorem upd_inv {F : Hp} {a b : Addr} {o u : HO} (h : upd F a o b = some u) : (b = a ∧ u = o) ∨ (b ≠ a ∧ F b = some u) := by
  by_cases q : b = a
  · subst q; rw [upd_same] at h; cases h; exact .inl ⟨rfl, rfl⟩
  · rw [upd_ne q] at h; exact .inr ⟨q, h⟩
/-- a list that no slot holds is left as it is from now on -/
theorem Rel.frzNew (R : Rel K B F σ H ρ C) {a : Addr} {vs : List V} (hl : H a = some (HO.lst vs)) (n1 : F a = none) (n2 : C a = none) (n3 : B.H a = none) (no : NotOwn ρ σ a) :
    Rel K B (upd F a (HO.lst vs)) σ H ρ C := by
  have s1 : Same F (upd F a (HO.lst vs)) := same_upd n1
  refine ⟨R.len, ⟨fun b o q => ?_, fun b c q => ?_⟩, ⟨R.fr.ff.trans s1, fun b o q => ?_, R.fr.frame, R.fr.cnew, R.fr.stay⟩, fun i d q => ?_, fun i xs q => ?_, R.dis⟩
  · rcases upd_inv q with ⟨rfl, rfl⟩ | ⟨_, q⟩
    · exact hl
    · exact R.ce.fh b o q
  · obtain ⟨q1, q2⟩ := R.ce.cel b c q
    have nb : b ≠ a := fun z => by rw [z, n2] at q; cases q
    exact ⟨q1.mono s1 fun _ z => z, by rw [upd_ne nb]; exact q2⟩
  · rcases upd_inv q with ⟨rfl, rfl⟩ | ⟨_, q⟩
    · exact .inr n3
    · exact R.fr.fnew b o q
  · obtain ⟨v, e, r⟩ := R.dat i d q
    exact ⟨v, e, r.mono s1⟩
  · obtain ⟨b, ws, e1, e2, e3, e4, e5, e6⟩ := R.own i xs q
    have nb : b ≠ a := fun z => by subst z; exact no i xs q e1
    exact ⟨b, ws, e1, e2, e3.mono s1, by rw [upd_ne nb]; exact e4, e5, e6⟩
/-- an own list is left as it is from now on -/
theorem Rel.frzOwn (R : Rel K B F σ H ρ C) {i : Nat} {xs : List D} (h : ρ[i]? = some (some (Dv.own xs))) :
    ∃ a vs, σ[i]? = some (some (V.ref a)) ∧ Same F (upd F a (HO.lst vs)) ∧ Rep K (upd F a (HO.lst vs)) (.ref a) (.lst xs) ∧ Rel K B (upd F a (HO.lst vs)) σ H (ρ.set i (some (Dv.dat (.lst xs)))) C := by
  obtain ⟨a, vs, e, hl, r0, n1, n2, n3⟩ := R.own i xs h
  have hlt : i < ρ.length := (List.getElem?_eq_some_iff.mp h).1
  have s1 : Same F (upd F a (HO.lst vs)) := same_upd n1
  have rep : Rep K (upd F a (HO.lst vs)) (.ref a) (.lst xs) := .lst upd_same (r0.mono s1)
  -- the slot forgotten
  have R1 : Rel K B F σ H (ρ.set i none) C := R.weak (by rw [List.length_set]; exact R.len) fun j x q => by
    rcases set_get q with ⟨_, z, _⟩ | ⟨_, q⟩
    · cases z
    · exact ⟨q, rfl⟩
  have no : NotOwn (ρ.set i none) σ a := fun j ys q e2 => by
    rcases set_get q with ⟨_, z, _⟩ | ⟨nij, q⟩
    · cases z
    · exact R.dis i j _ _ a nij h q e e2
  have R2 := (R1.frzNew hl n1 n2 n3 no).setDat i rep
  have es : σ.set i (some (.ref a)) = σ := by
    apply List.ext_getElem?
    intro j
    rw [List.getElem?_set]
    split
    · rename_i q
      subst q
      rw [if_pos (by rw [← R.len]; exact hlt), e]
    · rfl
  rw [es, List.set_set] at R2
  exact ⟨a, vs, e, s1, rep, R2⟩
/-- a cell changes -/
theorem Rel.mutCell (R : Rel K B F σ H ρ C) {a : Addr} {c c' : Cell} {o : HO} (h : C a = some c) (r : CellRep K F (upd H a o) a c') : Rel K B F σ (upd H a o) ρ (fun b => if b = a then some c' else C b) := by
  obtain ⟨r0, n0⟩ := R.ce.cel a c h
  have neF : ∀ {b : Addr} {u : HO}, F b = some u → b ≠ a := fun q z => by rw [z, n0] at q; cases q
  refine ⟨R.len, ⟨fun b u q => by rw [upd_ne (neF q)]; exact R.ce.fh b u q, fun b x q => ?_⟩, ⟨R.fr.ff, R.fr.fnew, fun b u q q2 => ?_, fun b x q => ?_, fun b u q => ?_⟩, R.dat, fun i xs q => ?_, R.dis⟩
  · by_cases z : b = a
    · subst z
      rw [if_pos rfl] at q
      cases q
      exact ⟨r, n0⟩
    · rw [if_neg z] at q
      obtain ⟨q1, q2⟩ := R.ce.cel b x q
      exact ⟨q1.mono (Same.refl _) (fun u y => by rw [upd_ne z]; exact y), q2⟩
  · have z : b ≠ a := fun z => by
      subst z
      rcases R.fr.cnew b c h with ⟨c0, e⟩ | e
      · rw [q2] at e; cases e
      · rw [q] at e; cases e
    rw [upd_ne z]
    exact R.fr.frame b u q q2
  · by_cases z : b = a
    · subst z; exact R.fr.cnew b c h
    · rw [if_neg z] at q; exact R.fr.cnew b x q
  · by_cases z : b = a
    · subst z; exact ⟨_, upd_same⟩
    · rw [upd_ne z]; exact R.fr.stay b u q
  · obtain ⟨b, ws, e1, e2, e3, e4, e5, e6⟩ := R.own i xs q
    have nb : b ≠ a := fun z => by rw [z, h] at e5; cases e5
    exact ⟨b, ws, e1, by rw [upd_ne nb]; exact e2, e3, e4, by rw [if_neg nb]; exact e5, e6⟩
/-- a list becomes a cell -/
theorem Rel.newCell (R : Rel K B F σ H ρ C) {a : Addr} {vs : List V} {xs : List D} (hl : H a = some (HO.lst vs)) (r : Reps K F vs xs) (n1 : F a = none) (n3 : B.H a = none) (no : NotOwn ρ σ a) :
    Rel K B F σ H ρ (fun b => if b = a then some (.lst xs) else C b) := by
  refine ⟨R.len, ⟨R.ce.fh, fun b x q => ?_⟩, ⟨R.fr.ff, R.fr.fnew, R.fr.frame, fun b x q => ?_, R.fr.stay⟩, R.dat, fun i ys q => ?_, R.dis⟩
  · by_cases z : b = a
    · subst z
      rw [if_pos rfl] at q
      cases q
      exact ⟨⟨vs, hl, r⟩, n1⟩
    · rw [if_neg z] at q; exact R.ce.cel b x q
  · by_cases z : b = a
    · subst z; exact .inr n3
    · rw [if_neg z] at q; exact R.fr.cnew b x q
  · obtain ⟨b, ws, e1, e2, e3, e4, e5, e6⟩ := R.own i ys q
    have nb : b ≠ a := fun z => by subst z; exact no i ys q e1
    exact ⟨b, ws, e1, e2, e3, e4, by rw [if_neg nb]; exact e5, e6⟩
/-- the address is a slot's own list -/
def OwnAt (ρ : Rho) (σ : L2.St) (a : Addr) : Prop := ∃ (i : Nat) (xs : List D), ρ[i]? = some (some (Dv.own xs)) ∧ σ[i]? = some (some (V.ref a))
open Classical in
/-- from here on: all but what the slots hold alone is to stay -/
noncomputable def reB (F H : Hp) (ρ : Rho) (σ : L2.St) (C : CM) : Base := ⟨fun a => if OwnAt ρ σ a then none else H a, F, C⟩
theorem reB_own {a : Addr} (h : OwnAt ρ σ a) : (reB F H ρ σ C).H a = none := by unfold reB; simp [h]
theorem reB_not {a : Addr} (h : ¬ OwnAt ρ σ a) : (reB F H ρ σ C).H a = H a := by unfold reB; simp [h]
theorem reB_some {a : Addr} {o : HO} (h : (reB F H ρ σ C).H a = some o) : ¬ OwnAt ρ σ a ∧ H a = some o := by
  by_cases q : OwnAt ρ σ a
  · rw [reB_own q] at h; cases h
  · rw [reB_not q] at h; exact ⟨q, h⟩
theorem Rel.rebase (R : Rel K B F σ H ρ C) : Rel K (reB F H ρ σ C) F σ H ρ C := by
  refine ⟨R.len, R.ce, ⟨Same.refl _, fun _ _ h => .inl h, fun a o h _ => (reB_some h).2, fun _ c h => .inl ⟨c, h⟩, fun a o h => ⟨o, (reB_some h).2⟩⟩, R.dat, fun i xs h => ?_, R.dis⟩
  obtain ⟨a, vs, e1, e2, e3, e4, e5, _⟩ := R.own i xs h
  exact ⟨a, vs, e1, e2, e3, e4, e5, reB_own ⟨i, xs, h, e1⟩⟩
theorem wipeR_length (ρ : Rho) : ∀ vs : List Nat, (wipeR ρ vs).length = ρ.length
  | [] => rfl
  | v :: vs => by unfold wipeR; rw [List.length_set, wipeR_length ρ vs]
theorem wipeR_some {i : Nat} {x : Dv} : ∀ {vs : List Nat}, (wipeR ρ vs)[i]? = some (some x) → ρ[i]? = some (some x) ∧ i ∉ vs
  | [], h => ⟨h, by simp⟩
  | v :: vs, h => by
    unfold wipeR at h
    rcases set_get h with ⟨_, z, _⟩ | ⟨n, h⟩
    · cases z
    · obtain ⟨h1, h2⟩ := wipeR_some h
      exact ⟨h1, by simp only [List.mem_cons, not_or]; exact ⟨fun e => n e.symm, h2⟩⟩
theorem wipeR_out {i : Nat} : ∀ {vs : List Nat}, i ∉ vs → (wipeR ρ vs)[i]? = ρ[i]?
  | [], _ => rfl
  | v :: vs, h => by
    simp only [List.mem_cons, not_or] at h
    unfold wipeR
    rw [List.getElem?_set_ne (fun e => h.1 e.symm)]
    exact wipeR_out h.2
theorem wipe_outS {i : Nat} : ∀ {vs : List Nat}, i ∉ vs → (wipe σ vs)[i]? = σ[i]?
  | [], _ => rfl
  | v :: vs, h => by
    simp only [List.mem_cons, not_or] at h
    unfold wipe
    rw [List.getElem?_set_ne (fun e => h.1 e.symm)]
    exact wipe_outS h.2
theorem wipe_in {i : Nat} : ∀ {vs : List Nat}, i ∈ vs → (wipe σ vs)[i]? = if i < σ.length then some none else none
  | v :: vs, h => by
    unfold wipe
    by_cases q : v = i
    · subst q
      rw [List.getElem?_set_self']
      by_cases z : v < σ.length
      · rw [if_pos z, List.getElem?_eq_getElem (by rw [wipe_length]; exact z)]; rfl
      · rw [if_neg z, List.getElem?_eq_none (by rw [wipe_length]; omega)]; rfl
    · rw [List.getElem?_set_ne q]
      rcases List.mem_cons.mp h with e | e
      · exact absurd e.symm q
      · exact wipe_in e
theorem wipe_eq {vs : List Nat} (hl : σ'.length = σ.length) (h : ∀ i, i ∉ vs → σ'[i]? = σ[i]?) : wipe σ' vs = wipe σ vs := by
  apply List.ext_getElem?
  intro i
  by_cases q : i ∈ vs
  · rw [wipe_in q, wipe_in q, hl]
  · rw [wipe_outS q, wipe_outS q, h i q]
theorem Rel.wiped (R : Rel K B F σ H ρ C) (vs : List Nat) : Rel K B F (wipe σ vs) H (wipeR ρ vs) C :=
  R.weak (by rw [wipeR_length, wipe_length]; exact R.len) fun i x h => ⟨(wipeR_some h).1, wipe_outS (wipeR_some h).2⟩
/-- back from a block -/
theorem Rel.back {vs : List Nat} {σ2 : L2.St} {ρ2 : Rho} (R : Rel K B F σ H ρ C) (R' : Rel K (reB F H (wipeR ρ vs) (wipe σ vs) C) F' σ2 H' ρ2 C') (h : ∀ i, i ∉ vs → ρ2[i]? = ρ[i]? ∧ σ2[i]? = σ[i]?) : Rel K B F' σ H' ρ C' := by
  have own_of : ∀ {a : Addr}, OwnAt (wipeR ρ vs) (wipe σ vs) a → OwnAt ρ σ a := fun ⟨i, xs, q1, q2⟩ => by
    obtain ⟨q, n⟩ := wipeR_some q1
    exact ⟨i, xs, q, by rw [← wipe_outS n]; exact q2⟩
  have hN : ∀ {a : Addr}, (reB F H (wipeR ρ vs) (wipe σ vs) C).H a = none → B.H a = none := fun {a} q => by
    by_cases z : OwnAt (wipeR ρ vs) (wipe σ vs) a
    · obtain ⟨i, xs, q1, q2⟩ := own_of z
      obtain ⟨b, ws, e1, _, _, _, _, e6⟩ := R.own i xs q1
      rw [q2] at e1; cases e1; exact e6
    · rw [reB_not z] at q; exact R.base_none q
  refine ⟨R.len, R'.ce, ⟨R.fr.ff.trans R'.fr.ff, fun b o q => ?_, fun b o q q2 => ?_, fun b c q => ?_, fun b o q => ?_⟩, fun i d q => ?_, fun i xs q => ?_, R.dis⟩
  · rcases R'.fr.fnew b o q with q | q
    · exact R.fr.fnew b o q
    · exact .inr (hN q)
  · have nC : C b = none := by
      cases e : C b with
      | none => rfl
      | some c =>
        rcases R.fr.cnew b c e with ⟨c0, z⟩ | z
        · rw [q2] at z; cases z
        · rw [q] at z; cases z
    refine R'.fr.frame b o ?_ nC
    by_cases z : OwnAt (wipeR ρ vs) (wipe σ vs) b
    · obtain ⟨i, xs, q1, q3⟩ := own_of z
      obtain ⟨b', ws, e1, _, _, _, _, e6⟩ := R.own i xs q1
      rw [q3] at e1; cases e1; rw [q] at e6; cases e6
    · rw [reB_not z]; exact R.fr.frame b o q q2
  · rcases R'.fr.cnew b c q with ⟨c0, q⟩ | q
    · exact R.fr.cnew b c0 q
    · exact .inr (hN q)
  · cases e : (reB F H (wipeR ρ vs) (wipe σ vs) C).H b with
    | none => rw [hN e] at q; cases q
    | some u => exact R'.fr.stay b u e
  · obtain ⟨v, e, r⟩ := R.dat i d q
    exact ⟨v, e, r.mono R'.fr.ff⟩
  · obtain ⟨a, ws, e1, e2, e3, e4, e5, e6⟩ := R.own i xs q
    by_cases iv : i ∈ vs
    · have na : ¬ OwnAt (wipeR ρ vs) (wipe σ vs) a := fun ⟨j, ys, q1, q2⟩ => by
        obtain ⟨q3, nj⟩ := wipeR_some q1
        rw [wipe_outS nj] at q2
        exact R.dis i j xs ys a (fun z => nj (z ▸ iv)) q q3 e1 q2
      have hb : (reB F H (wipeR ρ vs) (wipe σ vs) C).H a = some (HO.lst ws) := by rw [reB_not na]; exact e2
      refine ⟨a, ws, e1, R'.fr.frame a _ hb e5, e3.mono R'.fr.ff, ?_, ?_, e6⟩
      · cases z : F' a with
        | none => rfl
        | some o =>
          rcases R'.fr.fnew a o z with y | y
          · exact nomatch e4.symm.trans y
          · rw [hb] at y; cases y
      · cases z : C' a with
        | none => rfl
        | some o =>
          rcases R'.fr.cnew a o z with ⟨_, y⟩ | y
          · exact nomatch e5.symm.trans y
          · rw [hb] at y; cases y
    · obtain ⟨p1, p2⟩ := h i iv
      obtain ⟨b, us, f1, f2, f3, f4, f5, _⟩ := R'.own i xs (by rw [p1]; exact q)
      rw [p2, e1] at f1
      cases f1
      exact ⟨a, us, e1, f2, f3, f4, f5, e6⟩
/-- what stood and isn't a slot's own stands as it stood -/
theorem Rel.keep {a : Addr} {o : HO} {ρ0 : Rho} {σ0 : L2.St} {F0 H0 : Hp} {C0 : CM} (R' : Rel K (reB F0 H0 ρ0 σ0 C0) F' σ' H' ρ' C') (hl : H0 a = some o) (n1 : F0 a = none) (n2 : C0 a = none) (no : ¬ OwnAt ρ0 σ0 a) : H' a = some o ∧ F' a = none ∧ C' a = none := by
  have hb : (reB F0 H0 ρ0 σ0 C0).H a = some o := by rw [reB_not no]; exact hl
  refine ⟨R'.fr.frame a _ hb n2, ?_, ?_⟩
  · cases z : F' a with
    | none => rfl
    | some u =>
      rcases R'.fr.fnew a u z with y | y
      · exact nomatch n1.symm.trans y
      · rw [hb] at y; cases y
  · cases z : C' a with
    | none => rfl
    | some u =>
      rcases R'.fr.cnew a u z with ⟨_, y⟩ | y
      · exact nomatch n2.symm.trans y
      · rw [hb] at y; cases y
end
end M61

set_option Elab.async false
set_option linter.all false
set_option autoImplicit false
set_option maxRecDepth 100000
/-! M4b: readings by abstract values; the rules of expressions. -/
namespace M61
open PySem PySem.Spec PyProof.Rows L2
abbrev ME := Rho → CM → (D → Rho → CM → Prop) → Prop
abbrev MT := Rho → CM → (Bool → Rho → CM → Prop) → Prop
abbrev ML := Rho → CM → (List D → Rho → CM → Prop) → Prop
abbrev MO := Rho → CM → (Option Int → Rho → CM → Prop) → Prop
section
variable (K : PySem.W.Frag)
def rd (m : ME) : TE := fun σ H Q => ∃ (B : Base) (F : Hp) (ρ : Rho) (C : CM) (P : D → Rho → CM → Prop), Rel K B F σ H ρ C ∧ m ρ C P ∧
  ∀ d ρ' C' F' v H', Same F F' → Rel K B F' σ H' ρ' C' → Rep K F' v d → P d ρ' C' → Q v H'
def rdT (m : MT) : TT := fun σ H Q => ∃ (B : Base) (F : Hp) (ρ : Rho) (C : CM) (P : Bool → Rho → CM → Prop), Rel K B F σ H ρ C ∧ m ρ C P ∧
  ∀ b ρ' C' F' H', Same F F' → Rel K B F' σ H' ρ' C' → P b ρ' C' → Q b H'
def rdA (m : ML) : TA := fun σ H Q => ∃ (B : Base) (F : Hp) (ρ : Rho) (C : CM) (P : List D → Rho → CM → Prop), Rel K B F σ H ρ C ∧ m ρ C P ∧
  ∀ ds ρ' C' F' vs H', Same F F' → Rel K B F' σ H' ρ' C' → Reps K F' vs ds → P ds ρ' C' → Q vs H'
def rdO (m : MO) : TO := fun σ H Q => ∃ (B : Base) (F : Hp) (ρ : Rho) (C : CM) (P : Option Int → Rho → CM → Prop), Rel K B F σ H ρ C ∧ m ρ C P ∧
  ∀ o ρ' C' F' H', Same F F' → Rel K B F' σ H' ρ' C' → P o ρ' C' → Q o H'
/-- a fresh list -/
def rdL (m : ML) : TE := fun σ H Q => ∃ (B : Base) (F : Hp) (ρ : Rho) (C : CM) (P : List D → Rho → CM → Prop), Rel K B F σ H ρ C ∧ m ρ C P ∧
  ∀ ds ρ' C' F' a vs H', Same F F' → Rel K B F' σ H' ρ' C' → H' a = some (HO.lst vs) → Reps K F' vs ds → F' a = none → C' a = none → B.H a = none → NotOwn ρ' σ a → P ds ρ' C' → Q (.ref a) H'
def rdI (m : ML) : TI := fun σ H R => ∃ (B : Base) (F : Hp) (ρ : Rho) (C : CM) (P : List D → Rho → CM → Prop), Rel K B F σ H ρ C ∧ m ρ C P ∧
  ∀ ds ρ' C' F' J H', Same F F' → Rel K B F' σ H' ρ' C' → IterOk K F' ds J → P ds ρ' C' → R J H'
end
section
variable {X : Cx}
theorem pe_weak {e : Expr} {t t' : TE} (h : PE X e t) (k : ∀ σ H Q, t' σ H Q → t σ H Q) : PE X e t' := ⟨fun pins s σ H Q I q => h.run pins s σ H Q I (k σ H Q q)⟩
theorem pt_weak {e : Expr} {t t' : TT} (h : PT X e t) (k : ∀ σ H Q, t' σ H Q → t σ H Q) : PT X e t' := ⟨fun pins s σ H Q I q => h.run pins s σ H Q I (k σ H Q q)⟩
theorem pw_weak {e : Expr} {t t' : TT} (h : PW X e t) (k : ∀ σ H Q, t' σ H Q → t σ H Q) : PW X e t' := ⟨fun w pins s σ H Q I q => h.run w pins s σ H Q I (k σ H Q q)⟩
theorem pa_weak {e : List Expr} {t t' : TA} (h : PA X e t) (k : ∀ σ H Q, t' σ H Q → t σ H Q) : PA X e t' := ⟨fun pos pins s σ H Q I q => h.run pos pins s σ H Q I (k σ H Q q)⟩
theorem po_weak {e : Option Expr} {t t' : TO} (h : PO X e t) (k : ∀ σ H Q, t' σ H Q → t σ H Q) : PO X e t' := ⟨fun pins s σ H Q I q => h.run pins s σ H Q I (k σ H Q q)⟩
theorem pi_weak {tg e : Expr} {t t' : TI} (h : PI X tg e t) (k : ∀ σ H Q, t' σ H Q → t σ H Q) : PI X tg e t' := ⟨fun pins s σ H Q I q => h.run pins s σ H Q I (k σ H Q q)⟩

theorem e_var {i : Nat} {e : Expr} (h : PE X e (tVar i)) : PE X e (rd X.K fun ρ C P => varD ρ i fun d => P d ρ C) := pe_weak h fun σ H Q ⟨B, F, ρ, C, P, R, m, k⟩ => by
  unfold varD at m
  dsimp only at m
  split at m
  · rename_i d hd
    obtain ⟨v, e, r⟩ := R.dat i d hd
    exact ⟨v, e, k d ρ C F v H (Same.refl _) R r m⟩
  · exact m.elim
theorem e_mv {i : Nat} {e : Expr} (h : PE X e (tVar i)) : PE X e (rd X.K fun ρ C P => varM ρ i fun d ρ1 => P d ρ1 C) := pe_weak h fun σ H Q ⟨B, F, ρ, C, P, R, m, k⟩ => by
  unfold varM at m
  dsimp only at m
  split at m
  · rename_i xs hx
    obtain ⟨a, vs, e, s1, rep, R2⟩ := R.frzOwn hx
    exact ⟨_, e, k _ _ C _ _ H s1 R2 rep m⟩
  · rename_i d hx
    obtain ⟨v, e, r⟩ := R.dat i d hx
    exact ⟨v, e, k d ρ C F v H (Same.refl _) R r m⟩
  · exact m.elim
theorem e_const {d : D} {v : V} {e : Expr} (h : PE X e (tC v)) (r : ∀ F, Rep X.K F v d) : PE X e (rd X.K fun ρ C P => P d ρ C) := pe_weak h fun σ H Q ⟨B, F, ρ, C, P, R, m, k⟩ =>
  k d ρ C F v H (Same.refl _) R (r F) m
theorem rd_bind {ma : ME} {mb : D → ME} {σ : L2.St} {H : Hp} {Q : VK} {B : Base} {F : Hp} {ρ : Rho} {C : CM} {P : D → Rho → CM → Prop} (R : Rel X.K B F σ H ρ C) (m : ma ρ C P)
    (k : ∀ d ρ' C' F' v H', Same F F' → Rel X.K B F' σ H' ρ' C' → Rep X.K F' v d → P d ρ' C' → Q v H') : rd X.K ma σ H Q := ⟨B, F, ρ, C, P, R, m, k⟩
/-- two expressions, then an operation by values -/
theorem e_op2 {r : D → D → (D → Prop) → Prop} {ma mb : ME} {e : Expr} (h : PE X e (tOp (lift2 X.K r) (rd X.K ma) (rd X.K mb))) :
    PE X e (rd X.K fun ρ C P => ma ρ C fun x ρ1 C1 => mb ρ1 C1 fun y ρ2 C2 => r x y fun d => P d ρ2 C2) := pe_weak h fun σ H Q ⟨B, F, ρ, C, P, R, m, k⟩ =>
  ⟨B, F, ρ, C, _, R, m, fun x ρ1 C1 F1 v1 H1 s1 R1 r1 q1 => ⟨B, F1, ρ1, C1, _, R1, q1, fun y ρ2 C2 F2 v2 H2 s2 R2 r2 q2 =>
    ⟨F2, x, y, _, R2.ce.fh, r1.mono s2, r2, q2, fun d F3 v3 H3 g r3 p3 => k d ρ2 C2 F3 v3 H3 (s1.trans (s2.trans g.ff)) (R2.grow g) r3 p3⟩⟩⟩
theorem e_neg {ma : ME} {e : Expr} (h : PE X e (tUn (rU fun i => .int (-i)) (rd X.K ma))) :
    PE X e (rd X.K fun ρ C P => ma ρ C fun x ρ1 C1 => match x with | .int i => P (.int (-i)) ρ1 C1 | _ => False) := pe_weak h fun σ H Q ⟨B, F, ρ, C, P, R, m, k⟩ =>
  ⟨B, F, ρ, C, _, R, m, fun x ρ1 C1 F1 v1 H1 s1 R1 r1 q1 => by
    try dsimp only at q1
    split at q1
    · cases r1
      exact ⟨_, rfl, k _ ρ1 C1 F1 _ H1 s1 R1 (.int _) q1⟩
    · exact q1.elim⟩
/-- the value within a truth -/
def blP (f : Bool → Prop) : D → Prop
  | .bl b => f b
  | _ => False
theorem blP_inv {K : PySem.W.Frag} {F : Hp} {f : Bool → Prop} {d : D} {v : V} (r : Rep K F v d) (p : blP f d) : ∃ b, d = .bl b ∧ v = .bl b ∧ f b := by
  cases r <;> first | exact p.elim | skip
  exact ⟨_, rfl, rfl, p⟩
theorem e_chn {r r' : D → D → (Bool → Prop) → Prop} {ma mb mc : ME} {e : Expr} (h : PE X e (tChain (lift2 X.K fun d e P => r d e fun b => P (.bl b)) (lift2 X.K fun d e P => r' d e fun b => P (.bl b)) (rd X.K ma) (rd X.K mb) (rd X.K mc))) :
    PE X e (rd X.K fun ρ C P => ma ρ C fun x ρ1 C1 => mb ρ1 C1 fun y ρ2 C2 => r x y fun k => if k = true then mc ρ2 C2 fun z ρ3 C3 => r' y z fun k' => P (.bl k') ρ3 C3 else P (.bl false) ρ2 C2) :=
  pe_weak h fun σ H Q ⟨B, F, ρ, C, P, R, m, k⟩ =>
  ⟨B, F, ρ, C, _, R, m, fun x ρ1 C1 F1 v1 H1 s1 R1 r1 q1 => ⟨B, F1, ρ1, C1, _, R1, q1, fun y ρ2 C2 F2 v2 H2 s2 R2 r2 q2 =>
    ⟨F2, x, y, blP fun k => if k = true then mc ρ2 C2 fun z ρ3 C3 => r' y z fun k' => P (.bl k') ρ3 C3 else P (.bl false) ρ2 C2, R2.ce.fh, r1.mono s2, r2, q2, fun d F3 v3 H3 g r3 p3 => by
      obtain ⟨b, rfl, rfl, p3⟩ := blP_inv r3 p3
      refine ⟨b, rfl, ?_⟩
      cases b with
      | false => exact k _ ρ2 C2 F3 _ H3 (s1.trans (s2.trans g.ff)) (R2.grow g) (.bl _) p3
      | true => exact ⟨B, F3, ρ2, C2, _, R2.grow g, p3, fun z ρ3 C3 F4 v4 H4 s4 R4 r4 q4 => ⟨F4, y, z, blP fun k' => P (.bl k') ρ3 C3, R4.ce.fh, (r2.mono g.ff).mono s4, r4, q4, fun d F5 v5 H5 g5 r5 p5 => by
          obtain ⟨b, rfl, rfl, p5⟩ := blP_inv r5 p5
          exact k _ ρ3 C3 F5 _ H5 (s1.trans (s2.trans (g.ff.trans (s4.trans g5.ff)))) (R4.grow g5) (.bl _) p5⟩⟩⟩⟩⟩
theorem e_and {ma mb : ME} {e : Expr} (h : PE X e (tAndV (rd X.K ma) (rd X.K mb))) :
    PE X e (rd X.K fun ρ C P => ma ρ C fun x ρ1 C1 => match x with | .bl k => if k = true then mb ρ1 C1 P else P (.bl false) ρ1 C1 | _ => False) := pe_weak h fun σ H Q ⟨B, F, ρ, C, P, R, m, k⟩ =>
  ⟨B, F, ρ, C, _, R, m, fun x ρ1 C1 F1 v1 H1 s1 R1 r1 q1 => by
    try dsimp only at q1
    split at q1
    · rename_i b
      cases r1
      refine ⟨b, rfl, ?_⟩
      cases b with
      | false => exact k _ ρ1 C1 F1 _ H1 s1 R1 (.bl _) q1
      | true => exact ⟨B, F1, ρ1, C1, _, R1, q1, fun d ρ2 C2 F2 v2 H2 s2 R2 r2 q2 => k d ρ2 C2 F2 v2 H2 (s1.trans s2) R2 r2 q2⟩
    · exact q1.elim⟩
theorem e_or {ma mb : ME} {e : Expr} (h : PE X e (tOrV (rd X.K ma) (rd X.K mb))) :
    PE X e (rd X.K fun ρ C P => ma ρ C fun x ρ1 C1 => match x with | .bl k => if k = true then P (.bl true) ρ1 C1 else mb ρ1 C1 P | _ => False) := pe_weak h fun σ H Q ⟨B, F, ρ, C, P, R, m, k⟩ =>
  ⟨B, F, ρ, C, _, R, m, fun x ρ1 C1 F1 v1 H1 s1 R1 r1 q1 => by
    try dsimp only at q1
    split at q1
    · rename_i b
      cases r1
      refine ⟨b, rfl, ?_⟩
      cases b with
      | true => exact k _ ρ1 C1 F1 _ H1 s1 R1 (.bl _) q1
      | false => exact ⟨B, F1, ρ1, C1, _, R1, q1, fun d ρ2 C2 F2 v2 H2 s2 R2 r2 q2 => k d ρ2 C2 F2 v2 H2 (s1.trans s2) R2 r2 q2⟩
    · exact q1.elim⟩
theorem e_not {ma : ME} {e : Expr} (h : PE X e (tNotV (rd X.K ma))) :
    PE X e (rd X.K fun ρ C P => ma ρ C fun x ρ1 C1 => match x with | .bl k => P (.bl (!k)) ρ1 C1 | _ => False) := pe_weak h fun σ H Q ⟨B, F, ρ, C, P, R, m, k⟩ =>
  ⟨B, F, ρ, C, _, R, m, fun x ρ1 C1 F1 v1 H1 s1 R1 r1 q1 => by
    try dsimp only at q1
    split at q1
    · rename_i b
      cases r1
      exact ⟨b, rfl, k _ ρ1 C1 F1 _ H1 s1 R1 (.bl _) q1⟩
    · exact q1.elim⟩
theorem e_ife {mt : MT} {ma mb : ME} {e : Expr} (h : PE X e (tIf (rdT X.K mt) (rd X.K ma) (rd X.K mb))) :
    PE X e (rd X.K fun ρ C P => mt ρ C fun b ρ1 C1 => if b = true then ma ρ1 C1 P else mb ρ1 C1 P) := pe_weak h fun σ H Q ⟨B, F, ρ, C, P, R, m, k⟩ =>
  ⟨B, F, ρ, C, _, R, m, fun b ρ1 C1 F1 H1 s1 R1 q1 => by
    cases b with
    | false => exact ⟨B, F1, ρ1, C1, _, R1, q1, fun d ρ2 C2 F2 v2 H2 s2 R2 r2 q2 => k d ρ2 C2 F2 v2 H2 (s1.trans s2) R2 r2 q2⟩
    | true => exact ⟨B, F1, ρ1, C1, _, R1, q1, fun d ρ2 C2 F2 v2 H2 s2 R2 r2 q2 => k d ρ2 C2 F2 v2 H2 (s1.trans s2) R2 r2 q2⟩⟩
theorem a_nil : PA X [] (rdA X.K fun ρ C P => P [] ρ C) := pa_weak pa_nil fun σ H Q ⟨B, F, ρ, C, P, R, m, k⟩ => k _ ρ C F _ H (Same.refl _) R .nil m
theorem a_cons {ma : ME} {mb : ML} {es : List Expr} (h : PA X es (tCons (rd X.K ma) (rdA X.K mb))) :
    PA X es (rdA X.K fun ρ C P => ma ρ C fun x ρ1 C1 => mb ρ1 C1 fun xs ρ2 C2 => P (x :: xs) ρ2 C2) := pa_weak h fun σ H Q ⟨B, F, ρ, C, P, R, m, k⟩ =>
  ⟨B, F, ρ, C, _, R, m, fun x ρ1 C1 F1 v1 H1 s1 R1 r1 q1 => ⟨B, F1, ρ1, C1, _, R1, q1, fun xs ρ2 C2 F2 vs H2 s2 R2 r2 q2 => k _ ρ2 C2 F2 _ H2 (s1.trans s2) R2 (.cons (r1.mono s2) r2) q2⟩⟩
theorem o_no : PO X none (rdO X.K fun ρ C P => P none ρ C) := po_weak po_none fun σ H Q ⟨B, F, ρ, C, P, R, m, k⟩ => k _ ρ C F H (Same.refl _) R m
theorem o_yes {ma : ME} {e : Expr} (h : PE X e (rd X.K ma)) : PO X (some e) (rdO X.K fun ρ C P => ma ρ C fun x ρ1 C1 => match x with | .int i => P (some i) ρ1 C1 | _ => False) :=
  po_weak (po_some h) fun σ H Q ⟨B, F, ρ, C, P, R, m, k⟩ => ⟨B, F, ρ, C, _, R, m, fun x ρ1 C1 F1 v1 H1 s1 R1 r1 q1 => by
    try dsimp only at q1
    split at q1
    · cases r1
      exact ⟨_, rfl, k _ ρ1 C1 F1 H1 s1 R1 q1⟩
    · exact q1.elim⟩
theorem e_tup {ma : ML} {e : Expr} (h : PE X e (tTup (rdA X.K ma))) : PE X e (rd X.K fun ρ C P => ma ρ C fun ds ρ1 C1 => ds.length ≤ sizeLine ∧ P (.tup ds) ρ1 C1) := pe_weak h fun σ H Q ⟨B, F, ρ, C, P, R, m, k⟩ =>
  ⟨B, F, ρ, C, _, R, m, fun ds ρ1 C1 F1 vs H1 s1 R1 r1 q1 => ⟨by rw [r1.length]; exact q1.1, fun p hp => by
    have g := Grow.new (o := HO.tup vs) R1.ce.fh hp
    exact k _ ρ1 C1 _ _ _ (s1.trans g.ff) (R1.grow g) (.tup (SqT.of upd_same) (r1.mono g.ff)) q1.2⟩⟩
/-- a fresh list, at a new address -/
theorem rel_fresh {K : PySem.W.Frag} {B : Base} {F H : Hp} {σ : L2.St} {ρ : Rho} {C : CM} {p : Addr} {vs : List V} (R : Rel K B F σ H ρ C) (hp : H p = none) :
    Rel K B F σ (upd H p (HO.lst vs)) ρ C ∧ F p = none ∧ C p = none ∧ B.H p = none ∧ NotOwn ρ σ p := by
  have fn := same_none R.ce.fh hp
  refine ⟨R.grow ⟨Same.refl _, same_upd hp, fun a o h => ?_, fun _ _ h => .inl h⟩, fn, R.cell_none hp, R.base_none hp, R.notOwn_of hp⟩
  rw [upd_ne (fun z => by rw [z, fn] at h; cases h)]
  exact R.ce.fh a o h
theorem l_lit {ma : ML} {e : Expr} (h : PE X e (tLst (rdA X.K ma))) : PE X e (rdL X.K fun ρ C P => ma ρ C fun ds ρ1 C1 => ds.length ≤ sizeLine ∧ P ds ρ1 C1) := pe_weak h fun σ H Q ⟨B, F, ρ, C, P, R, m, k⟩ =>
  ⟨B, F, ρ, C, _, R, m, fun ds ρ1 C1 F1 vs H1 s1 R1 r1 q1 => ⟨by rw [r1.length]; exact q1.1, fun p hp => by
    obtain ⟨R2, f1, f2, f3, f4⟩ := rel_fresh (vs := vs) R1 hp
    exact k _ ρ1 C1 F1 p vs _ s1 R2 upd_same r1 f1 f2 f3 f4 q1.2⟩⟩
/-- a fresh list by values of one expression -/
theorem l_call1 {r : D → (List D → Prop) → Prop} {ma : ME} {e : Expr} (h : PE X e (tCB (liftF X.K r) (tCons (rd X.K ma) tNil))) : PE X e (rdL X.K fun ρ C P => ma ρ C fun x ρ1 C1 => r x fun ds => P ds ρ1 C1) := pe_weak h fun σ H Q ⟨B, F, ρ, C, P, R, m, k⟩ =>
  ⟨B, F, ρ, C, _, R, m, fun x ρ1 C1 F1 v1 H1 s1 R1 r1 q1 => ⟨F1, v1, x, _, rfl, R1.ce.fh, r1, q1, fun ds p vs hp rs p3 => by
    obtain ⟨R2, f1, f2, f3, f4⟩ := rel_fresh (vs := vs) R1 hp
    exact k _ ρ1 C1 F1 p vs _ s1 R2 upd_same rs f1 f2 f3 f4 p3⟩⟩
theorem l_rep {ma mb : ME} {e : Expr} (h : PE X e (tOp rRep (rd X.K ma) (rd X.K mb))) : PE X e (rdL X.K fun ρ C P => ma ρ C fun x ρ1 C1 => mb ρ1 C1 fun y ρ2 C2 => match x, y with
    | .lst xs, .int k => -(2 ^ 63) ≤ k ∧ k < 2 ^ 63 ∧ xs.length * k.toNat ≤ sizeLine ∧ P (List.replicate k.toNat xs).flatten ρ2 C2
    | _, _ => False) := pe_weak h fun σ H Q ⟨B, F, ρ, C, P, R, m, k⟩ =>
  ⟨B, F, ρ, C, _, R, m, fun x ρ1 C1 F1 v1 H1 s1 R1 r1 q1 => ⟨B, F1, ρ1, C1, _, R1, q1, fun y ρ2 C2 F2 v2 H2 s2 R2 r2 q2 => by
    try dsimp only at q2
    split at q2
    · rename_i n
      obtain ⟨a, vs, rfl, ha, ra⟩ := r1.lst_inv
      cases r2
      obtain ⟨m1, m2, m3, m4⟩ := q2
      refine ⟨a, _, vs, rfl, rfl, R2.ce.fh _ _ (s2 _ _ ha), m1, m2, by rw [ra.length]; exact m3, fun p hp => ?_⟩
      obtain ⟨R3, f1, f2, f3, f4⟩ := rel_fresh (vs := (List.replicate (Int.toNat n) vs).flatten) R2 hp
      exact k _ ρ2 C2 F2 p _ _ (s1.trans s2) R3 upd_same ((ra.mono s2).flatten _) f1 f2 f3 f4 m4
    · exact q2.elim⟩⟩
theorem e_frz {ml : ML} {e : Expr} (h : PE X e (rdL X.K ml)) : PE X e (rd X.K fun ρ C P => ml ρ C fun ds ρ1 C1 => P (.lst ds) ρ1 C1) := pe_weak h fun σ H Q ⟨B, F, ρ, C, P, R, m, k⟩ =>
  ⟨B, F, ρ, C, _, R, m, fun ds ρ1 C1 F1 a vs H1 s1 R1 hl rs n1 n2 n3 no q1 => by
    have s2 : Same F1 (upd F1 a (HO.lst vs)) := same_upd n1
    exact k _ ρ1 C1 _ _ H1 (s1.trans s2) (R1.frzNew hl n1 n2 n3 no) (.lst upd_same (rs.mono s2)) q1⟩
theorem e_cel {ml : ML} {e : Expr} (h : PE X e (rdL X.K ml)) : PE X e (rd X.K fun ρ C P => ml ρ C fun ds ρ1 C1 => ∀ a, C1 a = none → P (.ref a) ρ1 (fun b => if b = a then some (.lst ds) else C1 b)) := pe_weak h fun σ H Q ⟨B, F, ρ, C, P, R, m, k⟩ =>
  ⟨B, F, ρ, C, _, R, m, fun ds ρ1 C1 F1 a vs H1 s1 R1 hl rs n1 n2 n3 no q1 => k _ ρ1 _ F1 _ H1 s1 (R1.newCell hl rs n1 n3 no) (.ref a) (q1 a n2)⟩
theorem e_ix {ma mb : ME} {e : Expr} (h : PE X e (tOp (liftI X.K) (rd X.K ma) (rd X.K mb))) : PE X e (rd X.K fun ρ C P => ma ρ C fun x ρ1 C1 => mb ρ1 C1 fun y ρ2 C2 => itemR C2 x y fun d => P d ρ2 C2) := pe_weak h fun σ H Q ⟨B, F, ρ, C, P, R, m, k⟩ =>
  ⟨B, F, ρ, C, _, R, m, fun x ρ1 C1 F1 v1 H1 s1 R1 r1 q1 => ⟨B, F1, ρ1, C1, _, R1, q1, fun y ρ2 C2 F2 v2 H2 s2 R2 r2 q2 =>
    ⟨F2, x, y, C2, _, R2.ce, r1.mono s2, r2, q2, fun d v r3 p3 => k d ρ2 C2 F2 v H2 (s1.trans s2) R2 r3 p3⟩⟩⟩
theorem e_sl {ma : ME} {ml mh : MO} {e : Expr} (h : PE X e (tSl (liftSl X.K) (rd X.K ma) (rdO X.K ml) (rdO X.K mh))) :
    PE X e (rd X.K fun ρ C P => ma ρ C fun x ρ1 C1 => ml ρ1 C1 fun l ρ2 C2 => mh ρ2 C2 fun u ρ3 C3 => sliceR C3 x l u fun d => P d ρ3 C3) := pe_weak h fun σ H Q ⟨B, F, ρ, C, P, R, m, k⟩ =>
  ⟨B, F, ρ, C, _, R, m, fun x ρ1 C1 F1 v1 H1 s1 R1 r1 q1 => ⟨B, F1, ρ1, C1, _, R1, q1, fun l ρ2 C2 F2 H2 s2 R2 q2 => ⟨B, F2, ρ2, C2, _, R2, q2, fun u ρ3 C3 F3 H3 s3 R3 q3 =>
    ⟨F3, C3, x, _, R3.ce, (r1.mono s2).mono s3, q3, fun d F4 v4 H4 g r4 p4 => k d ρ3 C3 F4 v4 H4 (s1.trans (s2.trans (s3.trans g.ff))) (R3.grow g) r4 p4⟩⟩⟩⟩
theorem e_blt {f : Blt} {ma : ML} {e : Expr} (h : PE X e (tCB (liftB X.K fun C ds P => bltR C f ds P) (rdA X.K ma))) : PE X e (rd X.K fun ρ C P => ma ρ C fun ds ρ1 C1 => bltR C1 f ds fun d => P d ρ1 C1) := pe_weak h fun σ H Q ⟨B, F, ρ, C, P, R, m, k⟩ =>
  ⟨B, F, ρ, C, _, R, m, fun ds ρ1 C1 F1 vs H1 s1 R1 r1 q1 => ⟨F1, ds, C1, _, R1.ce, r1, q1, fun d F2 v2 H2 g r2 p2 => k d ρ1 C1 F2 v2 H2 (s1.trans g.ff) (R1.grow g) r2 p2⟩⟩
theorem e_isi {ma : ME} {t : Ty} {e : Expr} (h : PE X e (tCB (liftIs X.K t) (tCons (rd X.K ma) (tCons (tC (.ty (tyName t))) tNil)))) : PE X e (rd X.K fun ρ C P => ma ρ C fun x ρ1 C1 => ∃ b, isTy t x = some b ∧ P (.bl b) ρ1 C1) := pe_weak h fun σ H Q ⟨B, F, ρ, C, P, R, m, k⟩ =>
  ⟨B, F, ρ, C, _, R, m, fun x ρ1 C1 F1 v1 H1 s1 R1 r1 ⟨b, hb, q1⟩ => ⟨F1, v1, x, b, rfl, R1.ce.fh, r1, hb, k _ ρ1 C1 F1 _ H1 s1 R1 (.bl b) q1⟩⟩
/-- what a def promises -/
def spOf (K : PySem.W.Frag) (g : List D → CM → (D → CM → Prop) → Prop) : Sp := fun vs H Q _ => ∃ (F : Hp) (C : CM) (ds : List D) (P : D → CM → Prop), Cells K F H C ∧ Reps K F vs ds ∧ g ds C P ∧
  ∀ d C' F' v H', Cells K F' H' C' → Fr H F C H' F' C' → Rep K F' v d → P d C' → Q v H'
theorem e_call {g : List D → CM → (D → CM → Prop) → Prop} {E : XK} {ma : ML} {e : Expr} (h : PE X e (tCall (spOf X.K g) [] E (rdA X.K ma))) :
    PE X e (rd X.K fun ρ C P => ma ρ C fun ds ρ1 C1 => g ds C1 fun d C2 => P d ρ1 C2) := pe_weak h fun σ H Q ⟨B, F, ρ, C, P, R, m, k⟩ =>
  ⟨B, F, ρ, C, _, R, m, fun ds ρ1 C1 F1 vs H1 s1 R1 r1 q1 => by
    refine ⟨F1, C1, ds, _, R1.ce, by rw [List.append_nil]; exact r1, q1, fun d C2 F2 v2 H2 c2 f2 r2 p2 => k d ρ1 C2 F2 v2 H2 (s1.trans f2.ff) (R1.step f2 c2) r2 p2⟩⟩
end
end M61

set_option Elab.async false
set_option linter.all false
set_option autoImplicit false
set_option maxRecDepth 100000
/-! N1: list(reversed(a list)). -/
namespace M61.N1
open PySem PySem.Spec PyProof.Rows L2 RT
section
variable {prog : Program} {w : World} {A : Around} {E : Value → Shared → Prop} {s : Shared}
open RT in
theorem ext_rv {R : Result → Shared → Prop} {it l S : Addr} {items : Array Value} {c0 : Nat} (res : Value) (hh : A.handled = none) (hit : s.heap.IsRevIter it l ((items.size : Int) - 1)) (hl : s.heap.IsList l items) (hne : l ≠ it) (hn : items.size ≤ sizeLine)
    (q0 : s.heap.get? S = some { cls := .type "list", data := .seq #[] c0 }) (hS : S ≠ it) (hS2 : S ≠ l)
    (hR : ∀ (h' : Heap) (tk : Nat) (acc : Array Value) (c : Nat), (∀ b o, b ≠ it → b ≠ S → s.heap.get? b = some o → h'.get? b = some o) → h'.get? S = some { cls := .type "list", dict := none, data := .seq acc c, slots := #[] } → ItemsOf (fun i v => items[items.size - 1 - i]? = some v) acc items.size → R (.ok (.ret res)) { s with heap := h', toks := tk }) :
    wpAny (model prog w) A.in1 (Builtin.List.listExtendWith (.ref S) (.ref it) res)
      (fun fin s' => match fin with | .done f => R (.ok f) s' | .again c' => c'.quiet = true ∧ codeAny (model prog w) A c' R s') (fun e s' => R (.error e) s') s := by
  have WW := (Walks.listRev (prog := prog) (w := w) (A := A.in1) hh it l hne items).toS
  have hSf : S ∉ [it, l] := by simp only [List.mem_cons, List.not_mem_nil, or_false, not_or]; exact ⟨hS, hS2⟩
  have hT : s.TypeIs (.ref it) "list_reverseiterator" := Heap.IsRevIter.typeIs (s := s) hit
  have same0 : Builtin.List.listSameRef (.ref S) (.ref it) = false := by simp [Builtin.List.listSameRef, hS]
  unfold Builtin.List.listExtendWith; refine wpAny_bind (wpAny_typeOf hT ?_)
  rw [if_neg (by rw [same0]; decide)]; refine wpAny_bind (wpAny_pyIter_revIter (s := s) hit ?_); refine wpAny_bind (wpAny_holding ?_)
  unfold Builtin.List.listLengthHint; refine wpAny_bind (wpAny_specialOf hT nolen_lri ?_)
  show wpAny _ A.in1 (specialOf (Value.ref it) (Str.ofString "__length_hint__") >>= _) _ _ _; refine wpAny_bind (wpAny_specialOf hT hint_lri ?_)
  generalize hid : ("list_reverseiterator.__length_hint__" : String) = idn; wp_delta
  rw [show splitId idn = some ("list_reverseiterator", "__length_hint__") from by subst hid; decide +kernel]; subst hid
  refine wpAny_bind (wpAny_isInstance (b := true) hT (by rw [isSubtype_type]; kernel_rfl) ?_); refine wpAny_pure ?_
  rw [if_neg (by decide)]
  have e0 : ((items.size : Nat) : Int) - 1 - ((0 : Nat) : Int) = (items.size : Int) - 1 := by rw [Int.natCast_zero, Int.sub_zero]
  refine wpAny_pure ⟨plainId_quiet F.plain_extend_loop _, codeAny_extend_loopS WW hn _ hSf _ items.size 0 _ _ _ rfl (Nat.zero_le _) ⟨Nat.zero_le _, by rw [e0]; exact hit, hl⟩ q0 (ItemsOf.nil _) fun s1 ac cc hm hq hac => ?_⟩
  rw [Moved.eq_with hm]
  refine hR s1.heap s1.toks ac cc (fun b o hb hb2 e => hm.heap b o (fun hmem => ?_) e) hq hac
  rcases List.mem_cons.mp hmem with hmem | hmem
  · exact hb2 hmem
  · exact hb (List.mem_singleton.mp hmem)
open RT in
theorem init_rv {R : Result → Shared → Prop} {it l S : Addr} {items : Array Value} (hh : A.handled = none) (hit : s.heap.IsRevIter it l ((items.size : Int) - 1)) (hl : s.heap.IsList l items) (hne : l ≠ it) (hn : items.size ≤ sizeLine)
    (q0 : s.heap.get? S = some { cls := .type "list", data := .seq #[] }) (hS : S ≠ it) (hS2 : S ≠ l)
    (hR : ∀ (h' : Heap) (tk : Nat) (acc : Array Value) (c : Nat), (∀ b o, b ≠ it → b ≠ S → s.heap.get? b = some o → h'.get? b = some o) → h'.get? S = some { cls := .type "list", dict := none, data := .seq acc c, slots := #[] } → ItemsOf (fun i v => items[items.size - 1 - i]? = some v) acc items.size → R (.ok (.ret .none)) { s with heap := h', toks := tk }) :
    wpAny (model prog w) A.in1 (Builtin.«list.__init__» ⟨[.ref S, .ref it], []⟩)
      (fun fin s' => match fin with | .done f => R (.ok f) s' | .again c' => c'.quiet = true ∧ codeAny (model prog w) A c' R s') (fun e s' => R (.error e) s') s := by
  show wpAny _ A.in1 (do let old0 ← Builtin.List.listItems (.ref S); Builtin.List.listUpdate (.ref S) (fun _ => #[]); letGo old0.toList.reverse; Builtin.List.listExtendWith (.ref S) (.ref it) .none) _ _ s
  refine wpAny_bind ?_; unfold Builtin.List.listItems; refine wpAny_bind (wpAny_seqItems q0 rfl (wpAny_pure ?_))
  show wpAny _ A.in1 (updateSeq S (fun _ => #[]) >>= fun _ => letGo (#[] : Array Value).toList.reverse >>= fun _ => Builtin.List.listExtendWith (.ref S) (.ref it) .none) _ _ s
  refine wpAny_bind (wpAny_updateSeq q0 rfl ?_)
  have q2 := Heap.get?_update_self (Obj.mapSeq (fun _ => (#[] : Array Value))) q0 rfl
  have oth : ∀ b o, b ≠ S → s.heap.get? b = some o → (s.heap.update S (Obj.mapSeq (fun _ => (#[] : Array Value)))).get? b = some o := fun b o hb e => (Heap.get?_update_other _ _ (Ne.symm hb)).trans e
  refine wpAny_bind (wpAny_letGo ?_)
  obtain ⟨ol, hol, cl, rl⟩ := id hl
  refine ext_rv (s := { s with heap := s.heap.update S (Obj.mapSeq (fun _ => (#[] : Array Value))) }) .none hh (hit.at fun o e => oth it o (Ne.symm hS) e) ⟨ol, oth l ol (Ne.symm hS2) hol, cl, rl⟩ hne hn q2 hS hS2 fun h' tk acc c hk hq hac => hR h' tk acc c (fun b o hb hb2 e => hk b o hb hb2 (oth b o hb2 e)) hq hac
theorem call_rv {Q : Value → Shared → Prop} {it l : Addr} {items : Array Value} (hh : A.handled = none) (hit : s.heap.IsRevIter it l ((items.size : Int) - 1)) (hl : s.heap.IsList l items) (hne : l ≠ it) (hn : items.size ≤ sizeLine)
    (hQ : ∀ (h' : Heap) (tk : Nat) (acc : Array Value) (c : Nat), (∀ b o, b ≠ it → s.heap.get? b = some o → h'.get? b = some o) → h'.get? s.heap.objs.size = some { cls := .type "list", dict := none, data := .seq acc c, slots := #[] } → ItemsOf (fun i v => items[items.size - 1 - i]? = some v) acc items.size →
      Q (.ref s.heap.objs.size) { s with heap := h', toks := tk }) : wpAny (model prog w) A (call (.type "list") [.ref it]) Q E s := by
  refine callType_codes (Q₁ := fun u t => u = .ref s.heap.objs.size ∧ t = { s with heap := s.heap.push { cls := .type "list", data := .seq #[] } }) F.called_list (F.typeCall_list_1 _) F.entry_list_init (code_list_new _ ⟨rfl, rfl⟩) fun u t ht => ?_
  obtain ⟨rfl, rfl⟩ := ht
  have q0 : (s.heap.push { cls := .type "list", data := .seq #[] }).get? s.heap.objs.size = some { cls := .type "list", data := .seq #[] } := Heap.get?_push_size _ rfl
  obtain ⟨oi, hoi, _⟩ := id hit
  obtain ⟨ol, hol, _⟩ := id hl
  refine ⟨⟨_, q0, rfl⟩, F.args_list_init_2 _ _, init_rv (A := A.in1) (s := { s with heap := s.heap.push { cls := .type "list", data := .seq #[] } }) hh (hit.at fun o e => Heap.get?_push_of_some _ e) (hl.push _) hne hn q0 (Nat.ne_of_gt (Heap.lt_size hoi)) (Nat.ne_of_gt (Heap.lt_size hol)) fun h' tk acc c hk hq hac => ?_⟩
  exact ⟨rfl, hQ h' tk acc c (fun b o hb e => hk b o hb (Nat.ne_of_lt (Heap.lt_size e)) (Heap.get?_push_of_some _ e)) hq hac⟩
end
/-- what it reads -/
def tLstRev (K : PySem.W.Frag) (te : TE) : TE := fun σ H Q => te σ H fun v H1 => ∃ (a : Addr) (xs : List V), v = .ref a ∧ SqL K H1 a xs ∧ ∀ q, H1 q = none → Q (.ref q) (upd H1 q (.lst xs.reverse))
section
variable {X : Cx}
theorem pe_lstRev {e : Expr} {te : TE} {p p2 pos pos2 : Pos} (hc : X.calm = true) (g1 : Gl X "list") (m1 : X.mg "list" = none) (g2 : Gl X "reversed") (m2 : X.mg "reversed" = none) (he : PE X e te)
    (s1 : starEach [e] X.env = (false, eval e X.env) :: starEach [] X.env := by rfl)
    (s2 : starEach [.Call (.Name "reversed" p2) [e] [] pos2] X.env = (false, eval (.Call (.Name "reversed" p2) [e] [] pos2) X.env) :: starEach [] X.env := by rfl) :
    PE X (.Call (.Name "list" p) [.Call (.Name "reversed" p2) [e] [] pos2] [] pos) (tLstRev X.K te) := by
  constructor
  intro pins s σ H Q I h
  refine Call_ (ld_blt I g1 m1 boot_list (PyProof.Rows.callWith_type1 (args_cons (Call_ (ld_blt I g2 m2 PyProof.Rows.boot_reversed (PyProof.Rows.callWith_type1 (args_cons (thn (he.run pins s σ H _ I h) fun u t ⟨v, H1, I1, r1, q1⟩ => args_nil ?_) s1) s1 rfl))) s2) s2 rfl))
  obtain ⟨a, xs, ev, hq, q⟩ := q1
  subst ev
  obtain rfl : u = Value.ref a := r1
  obtain ⟨its, rv, pl, hz⟩ := I1.list hq
  refine call_reversed_list pl.isList (args_nil ?_)
  have hli := pl.isList
  obtain ⟨ol, hol, _⟩ := id hli
  have hne : a ≠ t.heap.objs.size := Nat.ne_of_lt (Heap.lt_size hol)
  have hn : its.toArray.size ≤ sizeLine := by rw [List.size_toArray, ← rv.length]; exact hz
  refine call_rv (s := { t with heap := t.heap.push (revObj a ((its.toArray.size : Int) - 1)) }) (I1.ok.hd hc) ⟨_, Heap.get?_push_size _ rfl, rfl, rfl⟩ (hli.push _) hne hn fun h' tk acc c hk e' hi => ?_
  have kp : ∀ b o, t.heap.get? b = some o → h'.get? b = some o := fun b o e => hk b o (Nat.ne_of_lt (Heap.lt_size e)) (Heap.get?_push_of_some _ e)
  have hS : t.heap.objs.size ≤ (t.heap.push (revObj a ((its.toArray.size : Int) - 1))).objs.size := by rw [Heap.size_push]; exact Nat.le_succ _
  refine ⟨.ref _, upd H1 _ (.lst xs.reverse), I1.laid (t' := tk) kp hS (show ObjOk X.prog X.w _ _ _ (.lst xs.reverse) from ⟨by rw [List.length_reverse]; exact hz, acc.toList, c, vals_rev rv hi, ?_⟩), rfl, q _ (I1.hok.fresh hS)⟩
  rw [Array.toArray_toList]; exact e'
end
end M61.N1

set_option Elab.async false
set_option linter.all false
set_option autoImplicit false
set_option maxRecDepth 100000
/-! M4c: t[::-1]; own lists and cells. -/
namespace M61
open PySem PySem.Spec PyProof.Rows L2 HT
section
variable {prog : Program} {w : World} {A : Around} {E : Value → Shared → Prop} {s : Shared}
theorem adjust_rev (n : Nat) : Builtin.Slice.sliceAdjust none none (-1) (n : Int) = ((n : Int) - 1, -1) := by
  unfold Builtin.Slice.sliceAdjust
  rfl
theorem places_rev (n : Nat) : Builtin.Slice.slicePlaces ((n : Int) - 1) (-1) (-1) = n := by
  unfold Builtin.Slice.slicePlaces
  have h0 : ¬ ((-1 : Int) > 0) := by decide
  simp only [h0, if_false]
  by_cases h : n = 0
  · subst h; rfl
  · have h1 : ((n : Int) - 1 > -1) := by omega
    have h2 : (-(-1 : Int)) = 1 := rfl
    simp only [h1, if_true, h2, Int.ediv_one]
    omega
theorem fm_congr {α β : Type} {f g : α → Option β} : ∀ {l : List α}, (∀ x ∈ l, f x = g x) → l.filterMap f = l.filterMap g
  | [], _ => rfl
  | x :: l, h => by
    rw [List.filterMap_cons, List.filterMap_cons, h x (List.mem_cons_self ..), fm_congr fun y hy => h y (List.mem_cons_of_mem _ hy)]
theorem pick_rev1 {α : Type} : ∀ (n : Nat) (xs : List α), xs.length = n → (List.range xs.length).filterMap (fun k => xs[xs.length - 1 - k]?) = xs.reverse
  | 0, xs, h => by rw [List.eq_nil_of_length_eq_zero h]; rfl
  | n + 1, xs, h => by
    have hne : xs ≠ [] := fun e => by rw [e] at h; cases h
    have e0 := (List.dropLast_concat_getLast hne)
    generalize hy : xs.getLast hne = y at e0
    generalize hys : xs.dropLast = ys at e0
    have ih := pick_rev1 n ys (by rw [← hys, List.length_dropLast, h]; rfl)
    rw [← e0, List.length_append, List.length_singleton, List.range_succ_eq_map, List.filterMap_cons, List.filterMap_map, List.reverse_append]
    have e : (ys ++ [y])[ys.length + 1 - 1 - 0]? = some y := by simp
    rw [e]
    show y :: _ = y :: ys.reverse
    congr 1
    rw [← ih]
    refine fm_congr fun k hk => ?_
    have hk' : k < ys.length := List.mem_range.mp hk
    show (ys ++ [y])[ys.length + 1 - 1 - (k + 1)]? = ys[ys.length - 1 - k]?
    rw [List.getElem?_append_left (by omega)]
    congr 1
    omega
theorem pick_rev0 {α : Type} (xs : List α) : (List.range xs.length).filterMap (fun k => xs[xs.length - 1 - k]?) = xs.reverse := pick_rev1 _ xs rfl
theorem pick_rev (items : Array Value) : ((List.range items.size).filterMap fun (k : Nat) => items[(((items.size : Nat) : Int) - 1 + (k : Int) * -1).toNat]?).toArray = items.toList.reverse.toArray := by
  rw [← pick_rev0 items.toList]
  congr 1
  rw [Array.length_toList]
  refine fm_congr fun k hk => ?_
  have hk' : k < items.size := List.mem_range.mp hk
  rw [show (((items.size : Nat) : Int) - 1 + (k : Int) * -1).toNat = items.size - 1 - k by omega]
  simp
theorem sliceApplied_rev {sl : Addr} {vl vu vs : Value} {n : Nat} {Q : Int × Int × Nat → Shared → Prop} (hs : s.heap.IsSliceOf sl vl vu vs) (pl : IsPart vl none) (pu : IsPart vu none) (ps : IsPart vs (some (-1)))
    (h : Q ((n : Int) - 1, -1, n) s) : wpAny (model prog w) A (Builtin.Slice.sliceApplied (.ref sl) (pure (n : Int))) Q E s := by
  obtain ⟨os, hos, hcs, hds⟩ := id hs
  unfold Builtin.Slice.sliceApplied Builtin.Slice.sliceFields
  refine wpAny_bind (wpAny_bind (wpAny_field hos hds (x := vl) rfl (wpAny_bind (wpAny_field hos hds (x := vu) rfl (wpAny_bind (wpAny_field hos hds (x := vs) rfl (wpAny_pure ?_)))))))
  refine wpAny_bind (slicePart_ ps ?_)
  show wpAny _ _ (if ((-1 : Int) == 0) = true then _ else _) _ _ s
  rw [if_neg (by decide)]
  refine wpAny_bind (slicePart_ pl (wpAny_bind (slicePart_ pu (wpAny_bind (wpAny_pure ?_)))))
  show wpAny _ _ (match Builtin.Slice.sliceAdjust none none (-1) (n : Int) with | (lo, hi) => pure (lo, (-1 : Int), Builtin.Slice.slicePlaces lo hi (-1))) _ _ s
  rw [adjust_rev n]
  show wpAny _ _ (pure ((n : Int) - 1, (-1 : Int), Builtin.Slice.slicePlaces ((n : Int) - 1) (-1) (-1))) _ _ s
  rw [places_rev]
  exact wpAny_pure h
theorem getItem_tuple_rev {t sl : Addr} {items : Array Value} {vl vu vs : Value} {Q : Value → Shared → Prop} (ht : IsTup s.heap t items) (hs : s.heap.IsSliceOf sl vl vu vs) (pl : IsPart vl none) (pu : IsPart vu none) (ps : IsPart vs (some (-1)))
    (h : Q (.ref s.heap.objs.size) { s with heap := s.heap.push { cls := .type "tuple", data := .seq items.toList.reverse.toArray } })
    (hsz : items.size ≤ sizeLine) : wpAny (model prog w) A (getItem (.ref t) (.ref sl)) Q E s := by
  have htake : sizeOk (.seq items.toList.reverse.toArray) := by
    show items.toList.reverse.toArray.size ≤ sizeLine
    rw [List.size_toArray, List.length_reverse, Array.length_toList]
    omega
  obtain ⟨os, hos, hcs, hds⟩ := id hs
  have hTs : s.TypeIs (.ref sl) "slice" := ⟨os, hos, hcs⟩
  unfold getItem
  try with_reducible refine wpAny_holding ?_
  first | refine wpAny_bind (wpAny_pure ?_) | skip
  refine wpAny_bind (wpAny_sequenceKey ht.typeIs (by decide) ?_)
  refine wpAny_bind (wpAny_callSpecial?_slot (name := Str.ofString "__getitem__") ht.typeIs PyProof.Rows.slot_tuple_getitem
    (wpAny_call_entry PyProof.Rows.slot_tuple_getitem ht.typeIs entry_tuple_getitem ?_ (args_tuple_getitem _ _)))
  show wpAny _ _ (Builtin.Tuple.tupleItemsOf (.ref t) >>= _) _ _ s
  refine wpAny_bind (tupleItemsOf_ ht ?_)
  refine wpAny_bind (wpAny_typeOf hTs ?_)
  rw [if_pos (by decide)]
  refine wpAny_bind (sliceApplied_rev hs pl pu ps ?_)
  have hno : ¬ (((((items.size : Nat) : Int) - 1) == 0 && (-1 : Int) == 1 && items.size == items.size) = true) := by
    intro q
    rw [Bool.and_eq_true, Bool.and_eq_true] at q
    exact absurd q.1.2 (by decide)
  show wpAny _ _ (if ((((items.size : Nat) : Int) - 1) == 0 && (-1 : Int) == 1 && items.size == items.size) = true then _ else _) _ _ s
  rw [if_neg hno, pick_rev]
  first
    | exact wpAny_bind (m := Builtin.Tuple.tupleExact _) (wpAny_newObj_type (wpAny_pure ⟨_, rfl, wpAny_pure h⟩) htake)
    | exact wpAny_bind (m := Builtin.Tuple.tupleExact _) (wpAny_newObj_type (wpAny_bind (wpAny_pure (wpAny_pure ⟨_, rfl, wpAny_pure h⟩))) htake)
    | exact wpAny_bind (wpAny_bind (m := Builtin.Tuple.tupleExact _) (wpAny_newObj_type (wpAny_pure (wpAny_pure ⟨_, rfl, wpAny_pure h⟩)) htake))
    | exact wpAny_bind (wpAny_bind (m := Builtin.Tuple.tupleExact _) (wpAny_newObj_type (wpAny_pure ⟨_, rfl, wpAny_pure h⟩) htake))
end
/-- x[::-1] of a list or a tuple -/
def tRevA (K : PySem.W.Frag) (te : TE) : TE := fun σ H Q => te σ H fun x H1 => ∃ a xs, x = .ref a ∧ ((SqL K H1 a xs ∧ ∀ p, H1 p = none → Q (.ref p) (upd H1 p (.lst xs.reverse))) ∨ (SqT K H1 a xs ∧ ∀ p, H1 p = none → Q (.ref p) (upd H1 p (.tup xs.reverse))))
section
variable {X : Cx}
theorem pe_revA {e : Expr} {te : TE} {k : Nat} {p1 p2 p3 pos : Pos} (he : PE X e te) : PE X (.Subscript e (.Slice none none (some (.UnaryOp .USub (.Constant (.int 1) k p1) p2)) p3) pos) (tRevA X.K te) := by
  refine ⟨fun pins s σ H Q I h => ?_⟩
  refine Subscript_ (thn (he.run pins s σ H _ I h) fun v s1 ⟨x, H1, I1, r1, q1⟩ => ?_)
  obtain ⟨a, xs, ex, q⟩ := q1
  subst ex
  cases r1
  have hst : PO X (some (.UnaryOp .USub (.Constant (.int 1) k p1) p2)) (tPart (tUn (rU fun i => .int (-i)) (tC (.int 1)))) := po_some (pe_un un_neg pe_int)
  refine wpAny_Slice (thn (po_none.run pins s1 σ H1 (fun o H2 => o = none ∧ H2 = H1) I1 ⟨rfl, rfl⟩) fun vl s2 ⟨l, H2, I2, pl, el, e2⟩ => ?_)
  subst el e2
  refine thn (po_none.run pins s2 σ H2 (fun o H3 => o = none ∧ H3 = H2) I2 ⟨rfl, rfl⟩) fun vu s3 ⟨u, H3, I3, pu, eu, e3⟩ => ?_
  subst eu e3
  refine thn (hst.run pins s3 σ H3 (fun o H4 => o = some (-1) ∧ H4 = H3) I3 ⟨1, rfl, -1, rfl, rfl, rfl⟩) fun vs s4 ⟨o, H4, I4, ps, eo, e4⟩ => ?_
  subst eo e4
  have I5 : Inv X pins σ H4 { s4 with heap := s4.heap.push { cls := .type "slice", data := .fields #[vl, vu, vs] } } := I4.kept (t' := s4.toks) fun b ob q => Heap.get?_push_of_some _ q
  show wpAny (model X.prog X.w) X.A (subscriptTail e (.Slice none none (some (.UnaryOp .USub (.Constant (.int 1) k p1) p2)) p3) (.ref a) (.ref s4.heap.objs.size)) (EP X pins σ Q) X.xe { s4 with heap := s4.heap.push { cls := .type "slice", data := .fields #[vl, vu, vs] } }
  rcases q with ⟨hx, q⟩ | ⟨hx, q⟩
  · obtain ⟨its, r, ht, hz⟩ := I5.list hx
    have hlen := r.length
    refine tail_any (ops := [.ref a, .ref s4.heap.objs.size]) ht.isList.typeIs (PySem.slot_list_getitem.lookup) ?_ (by with_unfolding_all rfl)
    refine wpAny_getItem_list_slice ht.isList (Heap.IsSliceOf.new _ vl vu vs) pl pu ps (by decide) ?_ (by rw [List.size_toArray]; omega)
    rw [PySem.W.krv_pick]
    refine ⟨.ref _, _, I5.laid (t' := s4.toks) (o := .lst xs.reverse) (fun b ob q => Heap.get?_push_of_some _ q) (Nat.le_refl _) ?_, rfl, q _ (I5.hok.fresh (Nat.le_refl _))⟩
    exact ⟨by rw [List.length_reverse]; exact hz, _, 0, r.reverse, Heap.get?_push_size _ rfl⟩
  · obtain ⟨its, r, ht, hz⟩ := I5.tuple hx
    have hlen := r.length
    refine tail_any (ops := [.ref a, .ref s4.heap.objs.size]) ht.typeIs (PyProof.Rows.slot_tuple_getitem.lookup) ?_ (by with_unfolding_all rfl)
    refine getItem_tuple_rev ht (Heap.IsSliceOf.new _ vl vu vs) pl pu ps ?_ (by rw [List.size_toArray]; omega)
    refine ⟨.ref _, _, I5.laid (t' := s4.toks) (o := .tup xs.reverse) (fun b ob q => Heap.get?_push_of_some _ q) (Nat.le_refl _) ?_, rfl, q _ (I5.hok.fresh (Nat.le_refl _))⟩
    exact ⟨by rw [List.length_reverse]; exact hz, _, r.reverse, IsTup.new _ _⟩
theorem e_rev {ma : ME} {e : Expr} (h : PE X e (tRevA X.K (rd X.K ma))) : PE X e (rd X.K fun ρ C P => ma ρ C fun x ρ1 C1 => revR x fun d => P d ρ1 C1) := pe_weak h fun σ H Q ⟨B, F, ρ, C, P, R, m, k⟩ =>
  ⟨B, F, ρ, C, _, R, m, fun x ρ1 C1 F1 v1 H1 s1 R1 r1 q1 => by
    unfold revR at q1
    split at q1
    · obtain ⟨a, xs, rfl, ha, ra⟩ := r1.lst_inv
      refine ⟨a, xs, rfl, .inl ⟨.of (R1.ce.fh _ _ ha), fun p hp => ?_⟩⟩
      have g := Grow.new (o := HO.lst xs.reverse) R1.ce.fh hp
      exact k _ ρ1 C1 _ _ _ (s1.trans g.ff) (R1.grow g) (.lst upd_same (ra.reverse.mono g.ff)) q1
    · obtain ⟨a, xs, rfl, ha, ra⟩ := r1.tup_inv
      refine ⟨a, xs, rfl, .inr ⟨sqT_same R1.ce.fh ha, fun p hp => ?_⟩⟩
      have g := Grow.new (o := HO.tup xs.reverse) R1.ce.fh hp
      exact k _ ρ1 C1 _ _ _ (s1.trans g.ff) (R1.grow g) (.tup (SqT.of upd_same) (ra.reverse.mono g.ff)) q1
    · exact q1.elim⟩
/-- own lists -/
theorem varO_inv {ρ : Rho} {i : Nat} {f : List D → Prop} (h : varO ρ i f) : ∃ xs, ρ[i]? = some (some (Dv.own xs)) ∧ f xs := by
  unfold varO at h
  split at h
  · exact ⟨_, by assumption, h⟩
  · exact h.elim
theorem varL_rel {K : PySem.W.Frag} {B : Base} {F : Hp} {σ : L2.St} {H : Hp} {ρ : Rho} {C : CM} {i : Nat} {f : List D → Prop} (R : Rel K B F σ H ρ C) (h : varL ρ C i f) : ∃ a vs xs, σ[i]? = some (some (V.ref a)) ∧ H a = some (HO.lst vs) ∧ Reps K F vs xs ∧ f xs := by
  unfold varL at h
  split at h
  · obtain ⟨a, vs, e1, hl, ra, _⟩ := R.own i _ (by assumption)
    exact ⟨a, vs, _, e1, hl, ra, h⟩
  · obtain ⟨xs, hc, h⟩ := h
    obtain ⟨v, e1, r⟩ := R.dat i _ (by assumption)
    cases r
    obtain ⟨vs, hl, ra⟩ := (R.ce.cel _ _ hc).1
    exact ⟨_, vs, xs, e1, hl, ra, h⟩
  · exact h.elim
theorem e_oix {i : Nat} {mb : ME} {e : Expr} (h : PE X e (tOp (rIxL X.K) (tVar i) (rd X.K mb))) :
    PE X e (rd X.K fun ρ C P => varO ρ i fun xs => mb ρ C fun y ρ1 C1 => ρ1 = ρ ∧ itemR C1 (.lst xs) y fun d => P d ρ1 C1) := pe_weak h fun σ H Q ⟨B, F, ρ, C, P, R, m, k⟩ => by
  obtain ⟨xs, hx, m⟩ := varO_inv m
  obtain ⟨a0, vs0, e0, _⟩ := R.own i xs hx
  refine ⟨_, e0, B, F, ρ, C, _, R, m, fun y ρ1 C1 F1 v1 H1 s1 R1 r1 ⟨eq, q1⟩ => ?_⟩
  subst eq
  obtain ⟨a, vs, e1, hl, ra, _⟩ := R1.own i xs hx
  rw [e0] at e1
  cases e1
  cases y with
  | int i' =>
    cases r1
    obtain ⟨d, hd, p⟩ := q1
    obtain ⟨w, hw, rw'⟩ := atI_getD ra hd
    exact ⟨a0, vs, _, w, rfl, rfl, .of hl, hw, k d _ C1 F1 w H1 s1 R1 rw' p⟩
  | _ => exact False.elim q1
theorem e_olen {i : Nat} {e : Expr} (h : PE X e (tCB (fun xs H Q => ∃ p ys, xs = [.ref p] ∧ (SqL X.K H p ys ∨ SqT X.K H p ys) ∧ Q (.int ys.length) H) (tCons (tVar i) tNil))) :
    PE X e (rd X.K fun ρ C P => varO ρ i fun xs => P (.int xs.length) ρ C) := pe_weak h fun σ H Q ⟨B, F, ρ, C, P, R, m, k⟩ => by
  obtain ⟨xs, hx, m⟩ := varO_inv m
  obtain ⟨a, vs, e1, hl, ra, _⟩ := R.own i xs hx
  rw [← ra.length] at m
  exact ⟨_, e1, a, vs, rfl, .inl (.of hl), k _ ρ C F _ H (Same.refl _) R (.int _) m⟩
theorem eqv_nil : ∀ xs : List D, PyData.eqv (.list (D.pys xs)) (.list (D.pys [])) = xs.isEmpty
  | [] => rfl
  | _ :: _ => rfl
theorem e_one {i : Nat} {e : Expr} (h : PE X e (tOp (rNeD X.K) (tVar i) (tLst tNil))) :
    PE X e (rd X.K fun ρ C P => varL ρ C i fun xs => (D.lst xs).Cmp ∧ P (.bl (!xs.isEmpty)) ρ C) := pe_weak h fun σ H Q ⟨B, F, ρ, C, P, R, m, k⟩ => by
  obtain ⟨a, vs, xs, e1, hl, ra, ⟨p1, p2⟩, m⟩ := varL_rel R m
  refine ⟨_, e1, Nat.zero_le _, fun p hp => ?_⟩
  have hs := same_upd (o := HO.lst []) hp
  have R2 := (rel_fresh (vs := []) R hp).1
  refine ⟨_, _, .lst (.of (hs _ _ hl)) (reps_dp ((ra.mono R.ce.fh).mono hs) p1), .lst (.of upd_same) .nil, p2, by decide +kernel, ?_⟩
  have e : (!PyData.eqv (.list (D.pys xs)) (.list [])) = !xs.isEmpty := by rw [← eqv_nil xs]; rfl
  rw [e]
  exact k _ ρ C F _ _ (Same.refl _) R2 (.bl _) m
theorem e_oem {i : Nat} {e : Expr} (h : PE X e (tOp (rEqD X.K) (tVar i) (tLst tNil))) :
    PE X e (rd X.K fun ρ C P => varL ρ C i fun xs => (D.lst xs).Cmp ∧ P (.bl xs.isEmpty) ρ C) := pe_weak h fun σ H Q ⟨B, F, ρ, C, P, R, m, k⟩ => by
  obtain ⟨a, vs, xs, e1, hl, ra, ⟨p1, p2⟩, m⟩ := varL_rel R m
  refine ⟨_, e1, Nat.zero_le _, fun p hp => ?_⟩
  have hs := same_upd (o := HO.lst []) hp
  have R2 := (rel_fresh (vs := []) R hp).1
  refine ⟨_, _, .lst (.of (hs _ _ hl)) (reps_dp ((ra.mono R.ce.fh).mono hs) p1), .lst (.of upd_same) .nil, p2, by decide +kernel, ?_⟩
  have e : PyData.eqv (.list (D.pys xs)) (.list []) = xs.isEmpty := by rw [← eqv_nil xs]; rfl
  rw [e]
  exact k _ ρ C F _ _ (Same.refl _) R2 (.bl _) m
theorem lstD_rel {K : PySem.W.Frag} {F H : Hp} {C : CM} {v : V} {d : D} {xs : List D} (ce : Cells K F H C) (r : Rep K F v d) (h : lstD C d = some xs) : ∃ a vs, v = .ref a ∧ H a = some (HO.lst vs) ∧ Reps K F vs xs := by
  unfold lstD at h
  split at h
  · cases h
    obtain ⟨a, vs, rfl, ha, ra⟩ := r.lst_inv
    exact ⟨a, vs, rfl, ce.fh _ _ ha, ra⟩
  · unfold cellL at h
    split at h
    · rename_i hc
      cases h
      cases r
      obtain ⟨vs, hl, ra⟩ := (ce.cel _ _ hc).1
      exact ⟨_, vs, rfl, hl, ra⟩
    · cases h
  · cases h
theorem e_cne {ma : ME} {e : Expr} (h : PE X e (tOp (rNeD X.K) (rd X.K ma) (tLst tNil))) :
    PE X e (rd X.K fun ρ C P => ma ρ C fun x ρ1 C1 => ∃ xs, lstD C1 x = some xs ∧ (D.lst xs).Cmp ∧ P (.bl (!xs.isEmpty)) ρ1 C1) := pe_weak h fun σ H Q ⟨B, F, ρ, C, P, R, m, k⟩ =>
  ⟨B, F, ρ, C, _, R, m, fun x ρ1 C1 F1 v1 H1 s1 R1 r1 ⟨xs, hx, ⟨p1, p2⟩, q⟩ => by
    obtain ⟨a, vs, rfl, hl, ra⟩ := lstD_rel R1.ce r1 hx
    refine ⟨Nat.zero_le _, fun p hp => ?_⟩
    have hs := same_upd (o := HO.lst []) hp
    have R2 := (rel_fresh (vs := []) R1 hp).1
    refine ⟨_, _, .lst (.of (hs _ _ hl)) (reps_dp ((ra.mono R1.ce.fh).mono hs) p1), .lst (.of upd_same) .nil, p2, by decide +kernel, ?_⟩
    have e : (!PyData.eqv (.list (D.pys xs)) (.list [])) = !xs.isEmpty := by rw [← eqv_nil xs]; rfl
    rw [e]
    exact k _ ρ1 C1 F1 _ _ s1 R2 (.bl _) q⟩
theorem e_ceq {ma : ME} {e : Expr} (h : PE X e (tOp (rEqD X.K) (rd X.K ma) (tLst tNil))) :
    PE X e (rd X.K fun ρ C P => ma ρ C fun x ρ1 C1 => ∃ xs, lstD C1 x = some xs ∧ (D.lst xs).Cmp ∧ P (.bl xs.isEmpty) ρ1 C1) := pe_weak h fun σ H Q ⟨B, F, ρ, C, P, R, m, k⟩ =>
  ⟨B, F, ρ, C, _, R, m, fun x ρ1 C1 F1 v1 H1 s1 R1 r1 ⟨xs, hx, ⟨p1, p2⟩, q⟩ => by
    obtain ⟨a, vs, rfl, hl, ra⟩ := lstD_rel R1.ce r1 hx
    refine ⟨Nat.zero_le _, fun p hp => ?_⟩
    have hs := same_upd (o := HO.lst []) hp
    have R2 := (rel_fresh (vs := []) R1 hp).1
    refine ⟨_, _, .lst (.of (hs _ _ hl)) (reps_dp ((ra.mono R1.ce.fh).mono hs) p1), .lst (.of upd_same) .nil, p2, by decide +kernel, ?_⟩
    have e : PyData.eqv (.list (D.pys xs)) (.list []) = xs.isEmpty := by rw [← eqv_nil xs]; rfl
    rw [e]
    exact k _ ρ1 C1 F1 _ _ s1 R2 (.bl _) q⟩
theorem l_lrv {ma : ME} {e : Expr} (h : PE X e (tRevL X.K (rd X.K ma))) : PE X e (rdL X.K fun ρ C P => ma ρ C fun x ρ1 C1 => ∃ xs, lstD C1 x = some xs ∧ P xs.reverse ρ1 C1) := pe_weak h fun σ H Q ⟨B, F, ρ, C, P, R, m, k⟩ =>
  ⟨B, F, ρ, C, _, R, m, fun x ρ1 C1 F1 v1 H1 s1 R1 r1 ⟨xs, hx, q⟩ => by
    obtain ⟨a, vs, rfl, hl, ra⟩ := lstD_rel R1.ce r1 hx
    refine ⟨a, vs, rfl, .of hl, fun p hp => ?_⟩
    obtain ⟨R2, f1, f2, f3, f4⟩ := rel_fresh (vs := vs.reverse) R1 hp
    exact k _ ρ1 C1 F1 p vs.reverse _ s1 R2 upd_same ra.reverse f1 f2 f3 f4 q⟩
theorem l_rvd {ma : ME} {e : Expr} (h : PE X e (N1.tLstRev X.K (rd X.K ma))) : PE X e (rdL X.K fun ρ C P => ma ρ C fun x ρ1 C1 => ∃ xs, lstD C1 x = some xs ∧ P xs.reverse ρ1 C1) := pe_weak h fun σ H Q ⟨B, F, ρ, C, P, R, m, k⟩ =>
  ⟨B, F, ρ, C, _, R, m, fun x ρ1 C1 F1 v1 H1 s1 R1 r1 ⟨xs, hx, q⟩ => by
    obtain ⟨a, vs, rfl, hl, ra⟩ := lstD_rel R1.ce r1 hx
    refine ⟨a, vs, rfl, .of hl, fun p hp => ?_⟩
    obtain ⟨R2, f1, f2, f3, f4⟩ := rel_fresh (vs := vs.reverse) R1 hp
    exact k _ ρ1 C1 F1 p vs.reverse _ s1 R2 upd_same ra.reverse f1 f2 f3 f4 q⟩
theorem l_cat {ma mb : ME} {e : Expr} (h : PE X e (tOp rCat (rd X.K ma) (rd X.K mb))) : PE X e (rdL X.K fun ρ C P => ma ρ C fun x ρ1 C1 => mb ρ1 C1 fun y ρ2 C2 => ∃ xs ys, lstD C2 x = some xs ∧ lstD C2 y = some ys ∧ xs.length + ys.length ≤ sizeLine ∧ P (xs ++ ys) ρ2 C2) := pe_weak h fun σ H Q ⟨B, F, ρ, C, P, R, m, k⟩ =>
  ⟨B, F, ρ, C, _, R, m, fun x ρ1 C1 F1 v1 H1 s1 R1 r1 q1 => ⟨B, F1, ρ1, C1, _, R1, q1, fun y ρ2 C2 F2 v2 H2 s2 R2 r2 ⟨xs, ys, hx, hy, hz, q⟩ => by
    obtain ⟨a, vs, rfl, hl, ra⟩ := lstD_rel R2.ce (r1.mono s2) hx
    obtain ⟨b, ws, rfl, hl2, rb⟩ := lstD_rel R2.ce r2 hy
    refine ⟨a, b, vs, ws, rfl, rfl, hl, hl2, by rw [ra.length, rb.length]; exact hz, fun p hp => ?_⟩
    obtain ⟨R3, f1, f2, f3, f4⟩ := rel_fresh (vs := vs ++ ws) R2 hp
    exact k _ ρ2 C2 F2 p (vs ++ ws) _ (s1.trans s2) R3 upd_same (ra.append rb) f1 f2 f3 f4 q⟩⟩
theorem reps_rg (K : PySem.W.Frag) (F : Hp) (a b : Int) : Reps K F (rgV a b) (rangeD a 1 (b - a).toNat) := by
  unfold rgV rangeD
  have key : ∀ l : List Nat, Reps K F (l.map fun i => V.int (a + (i : Nat))) (l.map fun i => D.int (a + (i : Nat) * 1)) := by
    intro l
    induction l with
    | nil => exact .nil
    | cons i l ih =>
      refine .cons ?_ ih
      show Rep K F (V.int (a + (i : Nat))) (D.int (a + (i : Nat) * 1))
      rw [Int.mul_one]
      exact .int _
  exact key _
theorem l_lrg1 {ma : ME} {e : Expr} (h : PE X e (tLstRg (tRg1 (rd X.K ma)))) : PE X e (rdL X.K fun ρ C P => ma ρ C fun x ρ1 C1 => match x with
    | .int j => RgOk 0 j ∧ P (rangeD 0 1 (j - 0).toNat) ρ1 C1 | _ => False) := pe_weak h fun σ H Q ⟨B, F, ρ, C, P, R, m, k⟩ =>
  ⟨B, F, ρ, C, _, R, m, fun x ρ1 C1 F1 v1 H1 s1 R1 r1 q1 => by
    try dsimp only at q1
    split at q1
    · cases r1
      refine ⟨_, rfl, q1.1, fun p hp => ?_⟩
      obtain ⟨R2, f1, f2, f3, f4⟩ := rel_fresh R1 hp
      exact k _ ρ1 C1 F1 p _ _ s1 R2 upd_same (reps_rg _ _ _ _) f1 f2 f3 f4 q1.2
    · exact q1.elim⟩
theorem l_lrg2 {ma mb : ME} {e : Expr} (h : PE X e (tLstRg (tRg2 (rd X.K ma) (rd X.K mb)))) : PE X e (rdL X.K fun ρ C P => ma ρ C fun x ρ1 C1 => mb ρ1 C1 fun y ρ2 C2 => match x, y with
    | .int i, .int j => RgOk i j ∧ P (rangeD i 1 (j - i).toNat) ρ2 C2 | _, _ => False) := pe_weak h fun σ H Q ⟨B, F, ρ, C, P, R, m, k⟩ =>
  ⟨B, F, ρ, C, _, R, m, fun x ρ1 C1 F1 v1 H1 s1 R1 r1 q1 => ⟨B, F1, ρ1, C1, _, R1, q1, fun y ρ2 C2 F2 v2 H2 s2 R2 r2 q2 => by
    try dsimp only at q2
    split at q2
    · cases r1; cases r2
      refine ⟨_, _, rfl, rfl, q2.1, fun p hp => ?_⟩
      obtain ⟨R3, f1, f2, f3, f4⟩ := rel_fresh R2 hp
      exact k _ ρ2 C2 F2 p _ _ (s1.trans s2) R3 upd_same (reps_rg _ _ _ _) f1 f2 f3 f4 q2.2
    · exact q2.elim⟩⟩
theorem dropLast_take {α : Type} (xs : List α) : xs.dropLast = xs.take (xs.length - 1) := List.dropLast_eq_take
theorem Reps.dropLast {K : PySem.W.Frag} {F : Hp} {vs : List V} {ds : List D} (r : Reps K F vs ds) : Reps K F vs.dropLast ds.dropLast := by
  rw [List.dropLast_eq_take, List.dropLast_eq_take, r.length]; exact r.take _
theorem e_opop {i : Nat} {e : Expr} (h : PE X e (tBM0 X.K "list" rPop (tVar i))) :
    PE X e (rd X.K fun ρ C P => varO ρ i fun xs => ∃ y, xs[xs.length - 1]? = some y ∧ P y (ρ.set i (some (.own xs.dropLast))) C) := pe_weak h fun σ H Q ⟨B, F, ρ, C, P, R, m, k⟩ => by
  obtain ⟨xs, hx, y, hy, m⟩ := varO_inv m
  obtain ⟨a, vs, e1, hl, ra, _⟩ := R.own i xs hx
  obtain ⟨v, hv, rv⟩ := ra.getD hy
  refine ⟨_, e1, .inl ⟨rfl, vs, .of hl⟩, a, vs, v, rfl, rfl, hl, by rw [ra.length]; exact hv, ?_⟩
  exact k _ _ C F _ _ (Same.refl _) (R.mutOwn hx e1 ra.dropLast) rv m
theorem Reps.eraseIdx {K : PySem.W.Frag} {F : Hp} : ∀ {vs : List V} {ds : List D} (i : Nat), Reps K F vs ds → Reps K F (vs.eraseIdx i) (ds.eraseIdx i)
  | _, _, _, .nil => .nil
  | _, _, 0, .cons _ t => t
  | _, _, i + 1, .cons r t => .cons r (Reps.eraseIdx i t)
theorem e_cpop {ma : ME} {e : Expr} (h : PE X e (tBM0 X.K "list" rPop (rd X.K ma))) :
    PE X e (rd X.K fun ρ C P => ma ρ C fun x ρ1 C1 => match x with
      | .ref a => ∃ xs y, C1 a = some (.lst xs) ∧ xs[xs.length - 1]? = some y ∧ P y ρ1 (fun b => if b = a then some (.lst xs.dropLast) else C1 b)
      | _ => False) := pe_weak h fun σ H Q ⟨B, F, ρ, C, P, R, m, k⟩ =>
  ⟨B, F, ρ, C, _, R, m, fun x ρ1 C1 F1 v1 H1 s1 R1 r1 q1 => by
    try dsimp only at q1
    split at q1
    · cases r1
      obtain ⟨xs, y, hc, hy, q1⟩ := q1
      obtain ⟨vs, hl, ra⟩ := (R1.ce.cel _ _ hc).1
      obtain ⟨v, hv, rv⟩ := ra.getD hy
      refine ⟨.inl ⟨rfl, vs, .of hl⟩, _, vs, v, rfl, rfl, hl, by rw [ra.length]; exact hv, ?_⟩
      exact k _ ρ1 _ F1 _ _ s1 (R1.mutCell (c' := .lst xs.dropLast) hc ⟨_, upd_same, ra.dropLast⟩) rv q1
    · exact q1.elim⟩
theorem e_cpopA {ma mb : ME} {e : Expr} (h : PE X e (tBM X.K "list" rPopAt (rd X.K ma) (tCons (rd X.K mb) tNil))) :
    PE X e (rd X.K fun ρ C P => ma ρ C fun x ρ1 C1 => match x with
    | .ref a => ∃ xs0, C1 a = some (.lst xs0) ∧ mb ρ1 C1 fun y ρ2 C2 => match y with
      | .int i => ∃ xs j y, C2 a = some (.lst xs) ∧ -(2 ^ 63) ≤ i ∧ i < 2 ^ 63 ∧ seqIndex? i xs.length = some j ∧ xs[j]? = some y ∧ P y ρ2 (fun b => if b = a then some (.lst (xs.eraseIdx j)) else C2 b)
      | _ => False
    | _ => False) := pe_weak h fun σ H Q ⟨B, F, ρ, C, P, R, m, k⟩ =>
  ⟨B, F, ρ, C, _, R, m, fun x ρ1 C1 F1 v1 H1 s1 R1 r1 q1 => by
    try dsimp only at q1
    split at q1
    · cases r1
      obtain ⟨xs0, hc0, q1⟩ := q1
      obtain ⟨vs0, hl0, _⟩ := (R1.ce.cel _ _ hc0).1
      refine ⟨.inl ⟨rfl, vs0, .of hl0⟩, B, F1, ρ1, C1, _, R1, q1, fun y ρ2 C2 F2 v2 H2 s2 R2 r2 q2 => ?_⟩
      try dsimp only at q2
      split at q2
      · cases r2
        obtain ⟨xs, j, y, hc, h1, h2, hj, hy, q2⟩ := q2
        obtain ⟨vs, hl, ra⟩ := (R2.ce.cel _ _ hc).1
        obtain ⟨v, hv, rv⟩ := ra.getD hy
        refine ⟨_, vs, _, j, v, rfl, rfl, hl, h1, h2, by rw [ra.length]; exact hj, hv, ?_⟩
        exact k _ ρ2 _ F2 _ _ (s1.trans s2) (R2.mutCell (c' := .lst (xs.eraseIdx j)) hc ⟨_, upd_same, ra.eraseIdx j⟩) rv q2
      · exact q2.elim
    · exact q1.elim⟩
theorem pys_getD {ds : List D} {j : Nat} {z : PyData} (h : (D.pys ds)[j]? = some z) : ∃ d, ds[j]? = some d ∧ z = d.py := by
  induction ds generalizing j with
  | nil => simp [D.pys] at h
  | cons x xs ih =>
    cases j with
    | zero => simp [D.pys] at h; exact ⟨x, rfl, h.symm⟩
    | succ j => simp [D.pys] at h; exact ih h
theorem pys_get {ds : List D} {j : Nat} {d : D} (h : ds[j]? = some d) : (D.pys ds)[j]? = some d.py := by
  induction ds generalizing j with
  | nil => simp at h
  | cons x xs ih =>
    cases j with
    | zero => simp at h; subst h; rfl
    | succ j => simp [D.pys]; exact ih h
theorem firstAt_spec {d : D} : ∀ {ds : List D} {j : Nat}, firstAt d ds = some j → (∃ z, ds[j]? = some z ∧ z.eqv d = true) ∧ ∀ (m : Nat) z, m < j → ds[m]? = some z → z.eqv d = false
  | [], _, h => by cases h
  | x :: xs, j, h => by
    unfold firstAt at h
    split at h
    · rename_i q
      cases h
      exact ⟨⟨x, rfl, q⟩, fun m z hm => absurd hm (Nat.not_lt_zero m)⟩
    · rename_i q
      cases e : firstAt d xs with
      | none => rw [e] at h; cases h
      | some i =>
        rw [e] at h
        cases h
        obtain ⟨⟨z, hz, hq⟩, hm⟩ := firstAt_spec e
        refine ⟨⟨z, by simpa using hz, hq⟩, fun m z hmi hz => ?_⟩
        cases m with
        | zero => simp at hz; subst hz; exact Bool.eq_false_iff.mpr q
        | succ m => exact hm m z (Nat.lt_of_succ_lt_succ hmi) (by simpa using hz)
theorem e_indx (hr : Room 0 X.A) {ma mb : ME} {e : Expr} (h : PE X e (tBM X.K "list" (rIndexD X.K) (rd X.K ma) (tCons (rd X.K mb) tNil))) :
    PE X e (rd X.K fun ρ C P => ma ρ C fun x ρ1 C1 => match x with
    | .lst xs => mb ρ1 C1 fun y ρ2 C2 => (D.lst xs).Cmp ∧ y.Cmp ∧ ∃ j, firstAt y xs = some j ∧ P (.int (j : Nat)) ρ2 C2
    | _ => False) := pe_weak h fun σ H Q ⟨B, F, ρ, C, P, R, m, k⟩ =>
  ⟨B, F, ρ, C, _, R, m, fun x ρ1 C1 F1 v1 H1 s1 R1 r1 q1 => by
    try dsimp only at q1
    split at q1
    · obtain ⟨a, vs, rfl, ha, ra⟩ := r1.lst_inv
      refine ⟨.inl ⟨rfl, vs, .of (R1.ce.fh _ _ ha)⟩, B, F1, ρ1, C1, _, R1, q1, fun y ρ2 C2 F2 v2 H2 s2 R2 r2 ⟨p1, p2, j, hj, q2⟩ => ?_⟩
      obtain ⟨⟨z, hz, hq⟩, hm⟩ := firstAt_spec hj
      have rl := (Rep.lst (s2 _ _ ha) (ra.mono s2)).mono R2.ce.fh
      refine ⟨a, v2, _, _, j, _, rfl, rfl, rep_dp rl p1.1, rep_dp (r2.mono R2.ce.fh) p2.1, p1.2, p2.2, pys_get hz, hq, fun m z' hm' hz' => ?_, k _ ρ2 C2 F2 _ H2 (s1.trans s2) R2 (.int _) q2⟩
      obtain ⟨d, hd, rfl⟩ := pys_getD hz'
      exact hm m d hm' hd
    · exact q1.elim⟩
end
end M61

set_option Elab.async false
set_option linter.all false
set_option autoImplicit false
set_option maxRecDepth 100000
/-! M4d: what is walked, targets, comprehensions. -/
namespace M61
open PySem PySem.Spec PyProof.Rows L2
section
variable {X : Cx}
theorem i_seq {tg : Expr} {ma : ME} {e : Expr} (h : PI X tg e (iSeq X.K (rd X.K ma))) : PI X tg e (rdI X.K fun ρ C P => ma ρ C fun x ρ1 C1 => match x with
    | .tup xs => P xs ρ1 C1 | .lst xs => P xs ρ1 C1 | _ => False) := pi_weak h fun σ H R ⟨B, F, ρ, C, P, Rl, m, k⟩ =>
  ⟨B, F, ρ, C, _, Rl, m, fun x ρ1 C1 F1 v1 H1 s1 R1 r1 q1 => by
    try dsimp only at q1
    split at q1
    · obtain ⟨a, vs, rfl, ha, ra⟩ := r1.tup_inv
      exact ⟨a, vs, rfl, .inr ⟨sqT_same R1.ce.fh ha, k _ ρ1 C1 F1 _ H1 s1 R1 (it_tup ha ra) q1⟩⟩
    · obtain ⟨a, vs, rfl, ha, ra⟩ := r1.lst_inv
      exact ⟨a, vs, rfl, .inl ⟨.of (R1.ce.fh _ _ ha), k _ ρ1 C1 F1 _ H1 s1 R1 (it_list (.of ha) ra) q1⟩⟩
    · exact q1.elim⟩
theorem i_enum {tg : Expr} {ma : ME} {e : Expr} (h : PI X tg e (iEnumA X.K (tCons (rd X.K ma) tNil))) : PI X tg e (rdI X.K fun ρ C P => ma ρ C fun x ρ1 C1 => match x with
    | .tup xs => P (enumD 0 xs) ρ1 C1 | .lst xs => P (enumD 0 xs) ρ1 C1 | _ => False) := pi_weak h fun σ H R ⟨B, F, ρ, C, P, Rl, m, k⟩ =>
  ⟨B, F, ρ, C, _, Rl, m, fun x ρ1 C1 F1 v1 H1 s1 R1 r1 q1 => by
    try dsimp only at q1
    split at q1
    · obtain ⟨a, vs, rfl, ha, ra⟩ := r1.tup_inv
      exact ⟨a, vs, rfl, .inr ⟨sqT_same R1.ce.fh ha, k _ ρ1 C1 F1 _ H1 s1 R1 (it_enumT ha ra) q1⟩⟩
    · obtain ⟨a, vs, rfl, ha, ra⟩ := r1.lst_inv
      exact ⟨a, vs, rfl, .inl ⟨.of (R1.ce.fh _ _ ha), k _ ρ1 C1 F1 _ H1 s1 R1 (it_enum (.of ha) ra) q1⟩⟩
    · exact q1.elim⟩
theorem i_rng1 {tg : Expr} {ma : ME} {e : Expr} (h : PI X tg e (iRng1 (tCons (rd X.K ma) tNil))) : PI X tg e (rdI X.K fun ρ C P => ma ρ C fun x ρ1 C1 => match x with
    | .int j => -(2 ^ 62) ≤ j ∧ j < 2 ^ 62 ∧ P (rangeD 0 1 j.toNat) ρ1 C1 | _ => False) := pi_weak h fun σ H R ⟨B, F, ρ, C, P, Rl, m, k⟩ =>
  ⟨B, F, ρ, C, _, Rl, m, fun x ρ1 C1 F1 v1 H1 s1 R1 r1 q1 => by
    try dsimp only at q1
    split at q1
    · cases r1
      exact ⟨_, rfl, q1.1, q1.2.1, k _ ρ1 C1 F1 _ H1 s1 R1 (it_range 0 _) q1.2.2⟩
    · exact q1.elim⟩
theorem i_rng2 {tg : Expr} {ma mb : ME} {e : Expr} (h : PI X tg e (iRng2 (tCons (rd X.K ma) (tCons (rd X.K mb) tNil)))) : PI X tg e (rdI X.K fun ρ C P => ma ρ C fun x ρ1 C1 => mb ρ1 C1 fun y ρ2 C2 => match x, y with
    | .int i, .int j => bnd i j ∧ P (rangeD i 1 (j - i).toNat) ρ2 C2 | _, _ => False) := pi_weak h fun σ H R ⟨B, F, ρ, C, P, Rl, m, k⟩ =>
  ⟨B, F, ρ, C, _, Rl, m, fun x ρ1 C1 F1 v1 H1 s1 R1 r1 q1 => ⟨B, F1, ρ1, C1, _, R1, q1, fun y ρ2 C2 F2 v2 H2 s2 R2 r2 q2 => by
    try dsimp only at q2
    split at q2
    · cases r1; cases r2
      exact ⟨_, _, rfl, q2.1, k _ ρ2 C2 F2 _ H2 (s1.trans s2) R2 (it_range _ _) q2.2⟩
    · exact q2.elim⟩⟩
theorem i_rng3 {tg : Expr} {ma mb mc : ME} {e : Expr} (h : PI X tg e (iRng3 (tCons (rd X.K ma) (tCons (rd X.K mb) (tCons (rd X.K mc) tNil))))) : PI X tg e (rdI X.K fun ρ C P => ma ρ C fun x ρ1 C1 => mb ρ1 C1 fun y ρ2 C2 => mc ρ2 C2 fun z ρ3 C3 => match x, y, z with
    | .int i, .int j, .int k => bnd i j ∧ k = -1 ∧ P (rangeD i k (i - j).toNat) ρ3 C3 | _, _, _ => False) := pi_weak h fun σ H R ⟨B, F, ρ, C, P, Rl, m, k⟩ =>
  ⟨B, F, ρ, C, _, Rl, m, fun x ρ1 C1 F1 v1 H1 s1 R1 r1 q1 => ⟨B, F1, ρ1, C1, _, R1, q1, fun y ρ2 C2 F2 v2 H2 s2 R2 r2 q2 => ⟨B, F2, ρ2, C2, _, R2, q2, fun z ρ3 C3 F3 v3 H3 s3 R3 r3 q3 => by
    try dsimp only at q3
    split at q3
    · cases r1; cases r2; cases r3
      obtain ⟨⟨b1, b2, b3, b4⟩, e, q3⟩ := q3
      subst e
      exact ⟨_, _, -1, _, rfl, RgC.neg b1 b2 b3 b4, k _ ρ3 C3 F3 _ H3 (s1.trans (s2.trans s3)) R3 (it_rangeC _ _ _) q3⟩
    · exact q3.elim⟩⟩⟩
/-- zip -/
theorem zipD_len : ∀ xs ys : List D, (zipD xs ys).length = min xs.length ys.length
  | [], _ => by simp [zipD]
  | _ :: _, [] => by simp [zipD]
  | x :: xs, y :: ys => by
    unfold zipD
    rw [List.length_cons, List.length_cons, List.length_cons, zipD_len xs ys]; omega
theorem zipD_get : ∀ (xs ys : List D) (i : Nat) (x y : D), xs[i]? = some x → ys[i]? = some y → (zipD xs ys)[i]? = some (.tup [x, y])
  | [], _, _, _, _, h, _ => by simp at h
  | _ :: _, [], _, _, _, _, h => by simp at h
  | a :: xs, b :: ys, 0, x, y, h, h2 => by simp at h h2; subst h h2; rfl
  | a :: xs, b :: ys, i + 1, x, y, h, h2 => by
    unfold zipD
    rw [List.getElem?_cons_succ] at h h2 ⊢
    exact zipD_get xs ys i x y h h2
theorem it_zipG {K : PySem.W.Frag} {F : Hp} {xs ys : List V} {ds es : List D} {J : It} {G : Hp → Prop} (r1 : Reps K F xs ds) (r2 : Reps K F ys es) (w : Walk J (zipD ds es).length G (YPair (fun i => xs[i]?) (fun i => ys[i]?))) (g : ∀ H, Same F H → G H) : IterOk K F (zipD ds es) J :=
  ⟨G, _, w, g, fun i H F2 x H' hi s s2 y => it_pair (n := (zipD ds es).length) (fun i u v F2 hi h1 h2 s => by
    obtain ⟨d, hd, rd⟩ := r1.get h1
    obtain ⟨e, he, re⟩ := r2.get h2
    exact ⟨d, e, rd.mono s, re.mono s, zipD_get _ _ _ _ _ hd he⟩) hi s s2 y⟩
theorem it_rev {K : PySem.W.Frag} {F : Hp} {xs : List V} {ds : List D} {J : It} {G : Hp → Prop} (r : Reps K F xs ds) (w : Walk J ds.reverse.length G (fun i H x H' => H' = H ∧ xs[xs.length - 1 - i]? = some x)) (g : ∀ H, Same F H → G H) : IterOk K F ds.reverse J :=
  ⟨G, _, w, g, fun i H F2 x H' hi s s2 ⟨e, hx⟩ => by
    subst e
    obtain ⟨d, hd, rd⟩ := r.get hx
    refine ⟨F2, d, Grow.refl s2, ?_, rd.mono s⟩
    rw [List.length_reverse] at hi
    rw [List.getElem?_reverse (by omega), ← r.length]
    exact hd⟩
theorem walk_revT {K : PySem.W.Frag} {a : Addr} {xs : List V} : Walk (RT.ItvT K a xs.length) xs.length (fun H => SqT K H a xs) (fun i H x H' => H' = H ∧ xs[xs.length - 1 - i]? = some x) :=
  ⟨fun i _ hi q => ⟨hi, xs, xs[xs.length - 1 - i]'(by omega), q, by simp [show xs.length - 1 - i < xs.length by omega]⟩, fun _ _ => Nat.le_refl _, fun _ _ _ _ _ q y => ⟨y.1, y.2 xs q⟩⟩
theorem i_rvs {tg : Expr} {ma : ME} {e : Expr} (h : PI X tg e (RT.iRevA X.K (rd X.K ma))) : PI X tg e (rdI X.K fun ρ C P => ma ρ C fun x ρ1 C1 => match x with
    | .tup xs => P xs.reverse ρ1 C1 | .lst xs => P xs.reverse ρ1 C1 | _ => False) := pi_weak h fun σ H R ⟨B, F, ρ, C, P, Rl, m, k⟩ =>
  ⟨B, F, ρ, C, _, Rl, m, fun x ρ1 C1 F1 v1 H1 s1 R1 r1 q1 => by
    try dsimp only at q1
    split at q1
    · obtain ⟨a, vs, rfl, ha, ra⟩ := r1.tup_inv
      exact ⟨a, vs, rfl, .inr ⟨sqT_same R1.ce.fh ha, k _ ρ1 C1 F1 _ H1 s1 R1 (it_rev ra (by rw [List.length_reverse, ← ra.length]; exact walk_revT) fun H s => sqT_same s ha) q1⟩⟩
    · obtain ⟨a, vs, rfl, ha, ra⟩ := r1.lst_inv
      exact ⟨a, vs, rfl, .inl ⟨.of (R1.ce.fh _ _ ha), k _ ρ1 C1 F1 _ H1 s1 R1 (it_rev ra (by rw [List.length_reverse, ← ra.length]; exact walk_rev) fun H s => SqL.of (s _ _ ha)) q1⟩⟩
    · exact q1.elim⟩
theorem i_rvr {tg : Expr} {ma mb : ME} {e : Expr} (h : PI X tg e (iRevR (tRg2 (rd X.K ma) (rd X.K mb)))) : PI X tg e (rdI X.K fun ρ C P => ma ρ C fun x ρ1 C1 => mb ρ1 C1 fun y ρ2 C2 => match x, y with
    | .int i, .int j => bnd i j ∧ P (rangeD (i + (((j - i).toNat : Nat) : Int) - 1) (-1) (j - i).toNat) ρ2 C2 | _, _ => False) := pi_weak h fun σ H R ⟨B, F, ρ, C, P, Rl, m, k⟩ =>
  ⟨B, F, ρ, C, _, Rl, m, fun x ρ1 C1 F1 v1 H1 s1 R1 r1 q1 => ⟨B, F1, ρ1, C1, _, R1, q1, fun y ρ2 C2 F2 v2 H2 s2 R2 r2 q2 => by
    try dsimp only at q2
    split at q2
    · cases r1; cases r2
      obtain ⟨⟨b1, b2, b3, b4⟩, q2⟩ := q2
      exact ⟨_, _, rfl, rfl, b1, b2, b3, b4, k _ ρ2 C2 F2 _ H2 (s1.trans s2) R2 (it_rangeC _ _ _) q2⟩
    · exact q2.elim⟩⟩

theorem i_rvr1 {tg : Expr} {ma : ME} {e : Expr} (h : PI X tg e (iRevR (tRg1 (rd X.K ma)))) : PI X tg e (rdI X.K fun ρ C P => ma ρ C fun x ρ1 C1 => match x with
    | .int j => bnd 0 j ∧ P (rangeD (0 + (((j - 0).toNat : Nat) : Int) - 1) (-1) (j - 0).toNat) ρ1 C1 | _ => False) := pi_weak h fun σ H R ⟨B, F, ρ, C, P, Rl, m, k⟩ =>
  ⟨B, F, ρ, C, _, Rl, m, fun x ρ1 C1 F1 v1 H1 s1 R1 r1 q1 => by
    try dsimp only at q1
    split at q1
    · cases r1
      obtain ⟨⟨b1, b2, b3, b4⟩, q1⟩ := q1
      exact ⟨_, rfl, b1, b2, b3, b4, k _ ρ1 C1 F1 _ H1 s1 R1 (it_rangeC _ _ _) q1⟩
    · exact q1.elim⟩
/-! ### targets -/
mutual
def tgSlots : Tg → List Nat
  | .nm i => [i]
  | .tp ts => tgsSlots ts
def tgsSlots : Tgs → List Nat
  | .nil => []
  | .cons t ts => tgSlots t ++ tgsSlots ts
end
/-- slots outside vs stay -/
def OutS (vs : List Nat) (ρ ρ' : Rho) (σ σ' : L2.St) : Prop := σ'.length = σ.length ∧ ∀ i, i ∉ vs → ρ'[i]? = ρ[i]? ∧ σ'[i]? = σ[i]?
theorem OutS.refl {vs : List Nat} {ρ : Rho} {σ : L2.St} : OutS vs ρ ρ σ σ := ⟨rfl, fun _ _ => ⟨rfl, rfl⟩⟩
theorem OutS.trans {vs : List Nat} {ρ ρ1 ρ2 : Rho} {σ σ1 σ2 : L2.St} (a : OutS vs ρ ρ1 σ σ1) (b : OutS vs ρ1 ρ2 σ1 σ2) : OutS vs ρ ρ2 σ σ2 :=
  ⟨b.1.trans a.1, fun i h => ⟨(b.2 i h).1.trans (a.2 i h).1, (b.2 i h).2.trans (a.2 i h).2⟩⟩
theorem OutS.mono {vs ws : List Nat} {ρ ρ1 : Rho} {σ σ1 : L2.St} (a : OutS vs ρ ρ1 σ σ1) (h : ∀ i ∈ vs, i ∈ ws) : OutS ws ρ ρ1 σ σ1 := ⟨a.1, fun i hi => a.2 i fun q => hi (h i q)⟩
def rg (K : PySem.W.Frag) (tg : Tg) : TG := fun v σ H Q => ∃ (B : Base) (F : Hp) (ρ : Rho) (C : CM) (d : D) (P : Rho → Prop), Rel K B F σ H ρ C ∧ Rep K F v d ∧ bindT tg d ρ P ∧
  ∀ ρ' σ', Rel K B F σ' H ρ' C → OutS (tgSlots tg) ρ ρ' σ σ' → P ρ' → Q σ' H
def rgs (K : PySem.W.Frag) (tg : Tgs) : TGs := fun vs σ H Q => ∃ (B : Base) (F : Hp) (ρ : Rho) (C : CM) (ds : List D) (P : Rho → Prop), Rel K B F σ H ρ C ∧ Reps K F vs ds ∧ bindTs tg ds ρ P ∧
  ∀ ρ' σ', Rel K B F σ' H ρ' C → OutS (tgsSlots tg) ρ ρ' σ σ' → P ρ' → Q σ' H
theorem pg_weak {e : Expr} {t t' : TG} (h : PG X e t) (k : ∀ v σ H Q, t' v σ H Q → t v σ H Q) : PG X e t' := ⟨fun pins s σ H x v Q I r q => h.run pins s σ H x v Q I r (k x σ H Q q)⟩
theorem pgs_weak {e : List Expr} {t t' : TGs} (h : PGs X e t) (k : ∀ v σ H Q, t' v σ H Q → t v σ H Q) : PGs X e t' := ⟨fun pins s σ H xs us Q I r q => h.run pins s σ H xs us Q I r (k xs σ H Q q)⟩
theorem g_nm {i : Nat} {e : Expr} (h : PG X e (gName i)) : PG X e (rg X.K (.nm i)) := pg_weak h fun v σ H Q ⟨B, F, ρ, C, d, P, R, r, m, k⟩ =>
  k _ _ (R.setDat i r) ⟨by rw [List.length_set], fun j hj => by
    have hne : i ≠ j := fun e => hj (by unfold tgSlots; rw [e]; exact List.mem_singleton.mpr rfl)
    exact ⟨List.getElem?_set_ne hne, List.getElem?_set_ne hne⟩⟩ m
theorem gs_nil : PGs X [] (rgs X.K .nil) := pgs_weak pgs_nil fun vs σ H Q ⟨B, F, ρ, C, ds, P, R, r, m, k⟩ => by
  cases r with
  | nil => exact ⟨rfl, k ρ σ R OutS.refl m⟩
  | cons _ _ => exact False.elim m
theorem gs_cons {e : Expr} {es : List Expr} {t : Tg} {ts : Tgs} (h : PGs X (e :: es) (gCons (rg X.K t) (rgs X.K ts))) : PGs X (e :: es) (rgs X.K (.cons t ts)) := pgs_weak h fun vs σ H Q ⟨B, F, ρ, C, ds, P, R, r, m, k⟩ => by
  cases r with
  | nil => exact False.elim m
  | cons r1 rr =>
    refine ⟨_, _, rfl, B, F, ρ, C, _, _, R, r1, m, fun ρ1 σ1 R1 o1 q1 => ⟨B, F, ρ1, C, _, _, R1, rr, q1, fun ρ2 σ2 R2 o2 q2 => k ρ2 σ2 R2 ?_ q2⟩⟩
    exact (o1.mono fun i hi => by unfold tgsSlots; exact List.mem_append_left _ hi).trans (o2.mono fun i hi => by unfold tgsSlots; exact List.mem_append_right _ hi)
theorem bindTs_len : ∀ {ts : Tgs} {ds : List D} {ρ : Rho} {P : Rho → Prop} {es : List Expr}, PGs X es (rgs X.K ts) → bindTs ts ds ρ P → True := fun _ _ => trivial
theorem pg_or {e : Expr} {t1 t2 : TG} (h1 : PG X e t1) (h2 : PG X e t2) : PG X e (fun v σ H Q => t1 v σ H Q ∨ t2 v σ H Q) := ⟨fun pins s σ H x v Q I r q => q.elim (h1.run pins s σ H x v Q I r) (h2.run pins s σ H x v Q I r)⟩
theorem g_tp {e : Expr} {ts : Tgs} {n : Nat} (hl : ∀ {ds : List D} {ρ : Rho} {P : Rho → Prop}, bindTs ts ds ρ P → ds.length = n) (h : PG X e (gTup X.K n (rgs X.K ts))) (h2 : PG X e (gLst X.K n (rgs X.K ts))) : PG X e (rg X.K (.tp ts)) := pg_weak (pg_or h h2) fun v σ H Q ⟨B, F, ρ, C, d, P, R, r, m, k⟩ => by
  cases d with
  | tup ds =>
    have m : bindTs ts ds ρ P := m
    obtain ⟨a, vs, rfl, ha, ra⟩ := r.tup_inv
    exact .inl ⟨a, vs, rfl, sqT_same R.ce.fh ha, by rw [ra.length]; exact hl m, B, F, ρ, C, _, P, R, ra, m, k⟩
  | lst ds =>
    have m : bindTs ts ds ρ P := m
    cases r with
    | lst ha ra => exact .inr ⟨_, _, rfl, .of (R.ce.fh _ _ ha), by rw [ra.length]; exact hl m, B, F, ρ, C, _, P, R, ra, m, k⟩
  | _ => exact False.elim m
end
end M61

set_option Elab.async false
set_option linter.all false
set_option autoImplicit false
set_option maxRecDepth 100000
/-! M4e: comprehensions, statements. -/
namespace M61
open PySem PySem.Spec PyProof.Rows L2
section
variable {K : PySem.W.Frag} {B : Base} {F F' H H' : Hp} {σ σ' : L2.St} {ρ ρ' : Rho} {C C' : CM}
/-- an address that nobody speaks of changes -/
theorem Rel.updFree (R : Rel K B F σ H ρ C) {a : Addr} {o : HO} (n1 : F a = none) (n2 : C a = none) (n3 : B.H a = none) (no : NotOwn ρ σ a) : Rel K B F σ (upd H a o) ρ C := by
  have neF : ∀ {b : Addr} {u : HO}, F b = some u → b ≠ a := fun q z => by rw [z, n1] at q; cases q
  have neC : ∀ {b : Addr} {c : Cell}, C b = some c → b ≠ a := fun q z => by rw [z, n2] at q; cases q
  have neB : ∀ {b : Addr} {u : HO}, B.H b = some u → b ≠ a := fun q z => by rw [z, n3] at q; cases q
  refine ⟨R.len, ⟨fun b u q => by rw [upd_ne (neF q)]; exact R.ce.fh b u q, fun b c q => ?_⟩, ⟨R.fr.ff, R.fr.fnew, fun b u q q2 => by rw [upd_ne (neB q)]; exact R.fr.frame b u q q2, R.fr.cnew, fun b u q => by rw [upd_ne (neB q)]; exact R.fr.stay b u q⟩, R.dat, fun i xs q => ?_, R.dis⟩
  · obtain ⟨q1, q2⟩ := R.ce.cel b c q
    exact ⟨q1.mono (Same.refl _) (fun u z => by rw [upd_ne (neC q)]; exact z), q2⟩
  · obtain ⟨b, ws, e1, e2, e3, e4, e5, e6⟩ := R.own i xs q
    have nb : b ≠ a := fun z => by subst z; exact no i xs q e1
    exact ⟨b, ws, e1, by rw [upd_ne nb]; exact e2, e3, e4, e5, e6⟩
end
section
variable {X : Cx}
/-- one turn of a comprehension -/
def compTurn (tg : Tg) (mc : MT) (me : ME) (vs : List Nat) (ρ1 : Rho) : D → CM → (Option D → CM → Prop) → Prop := fun d C2 K => bindT tg d (wipeR ρ1 vs) fun ρ2 => mc ρ2 C2 fun b ρ3 C3 => ρ3 = ρ2 ∧
  if b = true then me ρ3 C3 fun y ρ4 C4 => ρ4 = ρ2 ∧ K (some y) C4 else K none C3
theorem te_comp {mi : ML} {tg : Tg} {mc : MT} {me : ME} {vs : List Nat} (hsub : ∀ i ∈ tgSlots tg, i ∈ vs) : ∀ (σ : L2.St) (H : Hp) (Q : VK), rdL X.K (fun ρ C P => mi ρ C fun ds ρ1 C1 => compGo (compTurn tg mc me vs ρ1) ds [] C1 fun acc C4 => P acc ρ1 C4) σ H Q →
    tLc (rdI X.K mi) (rg X.K tg) (rdT X.K mc) (rd X.K me) vs σ H Q := fun σ H Q ⟨B, F, ρ, C, P, R, m, k⟩ =>
  ⟨B, F, ρ, C, _, R, m, fun ds ρ1 C1 F1 J H1 s1 R1 ⟨G, Y, w, hg, hy⟩ q1 D hD => by
    have bn := R1.base_none hD
    have no := R1.notOwn_of hD
    refine lc_it w (fun i H => ∃ F2 C2 acc vacc, Same F1 F2 ∧ Rel X.K B F2 σ H ρ1 C2 ∧ H D = some (HO.lst vacc) ∧ Reps X.K F2 vacc acc ∧ F2 D = none ∧ C2 D = none ∧
      compGo (compTurn tg mc me vs ρ1) (ds.drop i) acc C2 fun acc C4 => P acc ρ1 C4) ?_ (fun i H _ ⟨F2, C2, acc, vacc, s2, R2, _⟩ => hg H (s2.trans R2.ce.fh)) (fun i x H H' hi pv y => ?_) (fun H pv => ?_)
    · obtain ⟨R2, f1, f2, f3, f4⟩ := rel_fresh (vs := []) R1 hD
      exact ⟨F1, C1, [], [], Same.refl _, R2, upd_same, .nil, f1, f2, q1⟩
    · obtain ⟨F2, C2, acc, vacc, s2, R2, hl, ra, n1, n2, q2⟩ := pv
      obtain ⟨F3, d, g, hd, rd⟩ := hy i H F2 x H' hi s2 R2.ce.fh y
      have ed : ds.drop i = d :: ds.drop (i + 1) := by
        obtain ⟨h1, h2⟩ := List.getElem?_eq_some_iff.mp hd
        rw [← h2]; exact List.drop_eq_getElem_cons h1
      rw [ed] at q2
      have R3 := R2.grow g
      have hl3 : H' D = some (HO.lst vacc) := g.hh _ _ hl
      have n3 : F3 D = none := by
        cases z : F3 D with
        | none => rfl
        | some u =>
          rcases g.fnew D u z with z | z
          · rw [n1] at z; cases z
          · rw [hl] at z; cases z
      have nown : ¬ OwnAt (wipeR ρ1 vs) (wipe σ vs) D := fun ⟨j, ys, q1, q2⟩ => by
        obtain ⟨q3, nj⟩ := wipeR_some q1
        rw [wipe_outS nj] at q2
        exact no j ys q3 q2
      refine ⟨_, F3, wipeR ρ1 vs, C2, d, _, (R3.wiped vs).rebase, rd, q2, fun ρ2 σ2 R4 o4 q4 => ?_⟩
      have o5 : σ2.length = σ.length ∧ ∀ i, i ∉ vs → ρ2[i]? = ρ1[i]? ∧ σ2[i]? = σ[i]? := by
        obtain ⟨o1, o2⟩ := o4.mono hsub
        exact ⟨o1.trans (wipe_length _ _), fun i hi => ⟨(o2 i hi).1.trans (wipeR_out hi), (o2 i hi).2.trans (wipe_outS hi)⟩⟩
      refine ⟨wipe_eq o5.1 fun i hi => (o5.2 i hi).2, _, F3, ρ2, C2, _, R4, q4, fun b ρ3 C3 F5 H5 s5 R5 ⟨e3, q5⟩ => ?_⟩
      subst e3
      cases b with
      | false =>
        obtain ⟨k1, k2, k3⟩ := R5.keep hl3 n3 n2 nown
        exact ⟨F5, C3, acc, vacc, s2.trans (g.ff.trans s5), R3.back R5 o5.2, k1, ra.mono (g.ff.trans s5), k2, k3, q5⟩
      | true =>
        refine ⟨_, F5, ρ3, C3, _, R5, q5, fun y ρ4 C4 F6 v6 H6 s6 R6 r6 ⟨e4, q6, q7⟩ => ?_⟩
        subst e4
        obtain ⟨k1, k2, k3⟩ := R6.keep hl3 n3 n2 nown
        have s7 : Same F2 F6 := g.ff.trans (s5.trans s6)
        refine ⟨vacc, k1, by rw [ra.length]; exact q6, F6, C4, acc ++ [y], vacc ++ [v6], s2.trans s7, (R3.back R6 o5.2).updFree k2 k3 bn no, upd_same, (ra.mono s7).append (.cons r6 .nil), k2, k3, q7⟩
    · obtain ⟨F2, C2, acc, vacc, s2, R2, hl, ra, n1, n2, q2⟩ := pv
      rw [List.drop_length] at q2
      exact k acc ρ1 C2 F2 D vacc H (s1.trans s2) R2 hl ra n1 n2 bn no q2⟩

/-! ### statements -/
abbrev MS := AEnds → Rho → CM → Prop
def rdS (K : PySem.W.Frag) (m : MS) : TS := fun D σ H => ∃ (B : Base) (F : Hp) (ρ : Rho) (C : CM) (A : AEnds), Rel K B F σ H ρ C ∧ m A ρ C ∧
  (∀ ρ' C' F' σ' H', Same F F' → Rel K B F' σ' H' ρ' C' → A.nx ρ' C' → D.nx σ' H') ∧
  (∀ d C' F' v H', Cells K F' H' C' → Fr B.H B.F B.C H' F' C' → Rep K F' v d → A.rt d C' → D.rt v H') ∧
  (∀ ρ' C' F' σ' H', Same F F' → Rel K B F' σ' H' ρ' C' → A.bk ρ' C' → D.bk σ' H') ∧
  (∀ ρ' C' F' σ' H', Same F F' → Rel K B F' σ' H' ρ' C' → A.ct ρ' C' → D.ct σ' H')
theorem ps_weak {st : Stmt} {t t' : TS} (h : PS X st t) (k : ∀ D σ H, t' D σ H → t D σ H) : PS X st t' := ⟨fun pins s σ H D I q => h.run pins s σ H D I (k D σ H q)⟩
theorem pss_weak {st : List Stmt} {t t' : TS} (h : PSs X st t) (k : ∀ D σ H, t' D σ H → t D σ H) : PSs X st t' := ⟨fun pins s σ H D I q => h.run pins s σ H D I (k D σ H q)⟩

theorem ss_nil : PSs X [] (rdS X.K fun A ρ C => A.nx ρ C) := pss_weak pss_nil fun D σ H ⟨B, F, ρ, C, A, R, m, k1, _⟩ => k1 ρ C F σ H (Same.refl _) R m
theorem ss_cons {ms : MS} {mss : MS} {st : Stmt} {sts : List Stmt} (h1 : PS X st (rdS X.K ms)) (h2 : PSs X sts (rdS X.K mss)) :
    PSs X (st :: sts) (rdS X.K fun A ρ C => ms { A with nx := mss A } ρ C) := pss_weak (pss_cons h1 h2) fun D σ H ⟨B, F, ρ, C, A, R, m, k1, k2, k3, k4⟩ =>
  ⟨B, F, ρ, C, { A with nx := mss A }, R, m, fun ρ1 C1 F1 σ1 H1 s1 R1 q1 => ⟨B, F1, ρ1, C1, A, R1, q1, fun ρ2 C2 F2 σ2 H2 s2 R2 q2 => k1 ρ2 C2 F2 σ2 H2 (s1.trans s2) R2 q2, k2,
    fun ρ2 C2 F2 σ2 H2 s2 R2 q2 => k3 ρ2 C2 F2 σ2 H2 (s1.trans s2) R2 q2, fun ρ2 C2 F2 σ2 H2 s2 R2 q2 => k4 ρ2 C2 F2 σ2 H2 (s1.trans s2) R2 q2⟩, k2, k3, k4⟩
theorem s_set {i : Nat} {me : ME} {st : Stmt} (h : PS X st (tAsg (rd X.K me) (gName i))) : PS X st (rdS X.K fun A ρ C => me ρ C fun d ρ1 C1 => A.nx (ρ1.set i (some (.dat d))) C1) :=
  ps_weak h fun D σ H ⟨B, F, ρ, C, A, R, m, k1, _⟩ => ⟨B, F, ρ, C, _, R, m, fun d ρ1 C1 F1 v1 H1 s1 R1 r1 q1 => k1 _ C1 F1 _ H1 s1 (R1.setDat i r1) q1⟩
theorem s_par2 {i j : Nat} {ma : ML} {st : Stmt} (h : PS X st (tPar i j (rdA X.K ma))) : PS X st (rdS X.K fun A ρ C => ma ρ C fun ds ρ1 C1 => match ds with
    | [d, e] => A.nx ((ρ1.set i (some (.dat d))).set j (some (.dat e))) C1 | _ => False) :=
  ps_weak h fun D σ H ⟨B, F, ρ, C, A, R, m, k1, _⟩ => ⟨B, F, ρ, C, _, R, m, fun ds ρ1 C1 F1 vs H1 s1 R1 r1 q1 => by
    try dsimp only at q1
    split at q1
    · cases r1 with
      | cons ra rr =>
        cases rr with
        | cons rb rn =>
          cases rn
          exact ⟨_, _, rfl, k1 _ C1 F1 _ H1 s1 ((R1.setDat i ra).setDat j rb) q1⟩
    · exact q1.elim⟩
theorem s_par3 {i j l : Nat} {ma : ML} {st : Stmt} (h : PS X st (tPar3 i j l (rdA X.K ma))) : PS X st (rdS X.K fun A ρ C => ma ρ C fun ds ρ1 C1 => match ds with
    | [d, e, f] => A.nx (((ρ1.set i (some (.dat d))).set j (some (.dat e))).set l (some (.dat f))) C1 | _ => False) :=
  ps_weak h fun D σ H ⟨B, F, ρ, C, A, R, m, k1, _⟩ => ⟨B, F, ρ, C, _, R, m, fun ds ρ1 C1 F1 vs H1 s1 R1 r1 q1 => by
    try dsimp only at q1
    split at q1
    · cases r1 with
      | cons ra rr =>
        cases rr with
        | cons rb rn =>
          cases rn with
          | cons rc rm =>
            cases rm
            exact ⟨_, _, _, rfl, k1 _ C1 F1 _ H1 s1 (((R1.setDat i ra).setDat j rb).setDat l rc) q1⟩
    · exact q1.elim⟩
theorem s_own {i : Nat} {ml : ML} {st : Stmt} (h : PS X st (tAsg (rdL X.K ml) (gName i))) : PS X st (rdS X.K fun A ρ C => ml ρ C fun ds ρ1 C1 => A.nx (ρ1.set i (some (.own ds))) C1) :=
  ps_weak h fun D σ H ⟨B, F, ρ, C, A, R, m, k1, _⟩ => ⟨B, F, ρ, C, _, R, m, fun ds ρ1 C1 F1 a vs H1 s1 R1 hl rs n1 n2 n3 no q1 => k1 _ C1 F1 _ H1 s1 (R1.setOwn i hl rs n1 n2 n3 no) q1⟩
theorem s_unp {tg : Tg} {me : ME} {st : Stmt} (h : PS X st (tAsg (rd X.K me) (rg X.K tg))) : PS X st (rdS X.K fun A ρ C => me ρ C fun d ρ1 C1 => bindT tg d ρ1 fun ρ2 => A.nx ρ2 C1) :=
  ps_weak h fun D σ H ⟨B, F, ρ, C, A, R, m, k1, _⟩ => ⟨B, F, ρ, C, _, R, m, fun d ρ1 C1 F1 v1 H1 s1 R1 r1 q1 => ⟨B, F1, ρ1, C1, d, _, R1, r1, q1, fun ρ2 σ2 R2 _ q2 => k1 ρ2 C1 F1 σ2 H1 s1 R2 q2⟩⟩
theorem s_exp {me : ME} {st : Stmt} (h : PS X st (tDrop (rd X.K me))) : PS X st (rdS X.K fun A ρ C => me ρ C fun _ ρ1 C1 => A.nx ρ1 C1) :=
  ps_weak h fun D σ H ⟨B, F, ρ, C, A, R, m, k1, _⟩ => ⟨B, F, ρ, C, _, R, m, fun d ρ1 C1 F1 v1 H1 s1 R1 r1 q1 => k1 ρ1 C1 F1 σ H1 s1 R1 q1⟩
theorem s_ret {me : ME} {st : Stmt} (h : PS X st (tRet (rd X.K me))) : PS X st (rdS X.K fun A ρ C => me ρ C fun d _ C1 => A.rt d C1) :=
  ps_weak h fun D σ H ⟨B, F, ρ, C, A, R, m, k1, k2, _⟩ => ⟨B, F, ρ, C, _, R, m, fun d ρ1 C1 F1 v1 H1 s1 R1 r1 q1 => k2 d C1 F1 v1 H1 R1.ce R1.fr r1 q1⟩
theorem s_ret0 {st : Stmt} (h : PS X st tRetN) : PS X st (rdS X.K fun A _ C => A.rt .non C) :=
  ps_weak h fun D σ H ⟨B, F, ρ, C, A, R, m, k1, k2, _⟩ => k2 .non C F .non H R.ce R.fr .non m
theorem s_pass {st : Stmt} (h : PS X st tNext) : PS X st (rdS X.K fun A ρ C => A.nx ρ C) := ps_weak h fun D σ H ⟨B, F, ρ, C, A, R, m, k1, _⟩ => k1 ρ C F σ H (Same.refl _) R m
theorem s_brk {st : Stmt} (h : PS X st tBreak) : PS X st (rdS X.K fun A ρ C => A.bk ρ C) := ps_weak h fun D σ H ⟨B, F, ρ, C, A, R, m, k1, k2, k3, k4⟩ => k3 ρ C F σ H (Same.refl _) R m
theorem s_cnt {st : Stmt} (h : PS X st tCont) : PS X st (rdS X.K fun A ρ C => A.ct ρ C) := ps_weak h fun D σ H ⟨B, F, ρ, C, A, R, m, k1, k2, k3, k4⟩ => k4 ρ C F σ H (Same.refl _) R m
theorem s_nev {st : Stmt} : PS X st (rdS X.K fun _ _ _ => False) := ps_weak ps_never fun D σ H ⟨B, F, ρ, C, A, R, m, _⟩ => m.elim
theorem s_ife {mt : MT} {ma mb : MS} {st : Stmt} (h : PS X st (tIfS (rdT X.K mt) (rdS X.K ma) (rdS X.K mb))) :
    PS X st (rdS X.K fun A ρ C => mt ρ C fun k ρ1 C1 => if k = true then ma A ρ1 C1 else mb A ρ1 C1) := ps_weak h fun D σ H ⟨B, F, ρ, C, A, R, m, k1, k2, k3, k4⟩ =>
  ⟨B, F, ρ, C, _, R, m, fun b ρ1 C1 F1 H1 s1 R1 q1 => by
    have c1 := fun ρ2 C2 F2 σ2 H2 (s2 : Same F1 F2) R2 q2 => k1 ρ2 C2 F2 σ2 H2 (s1.trans s2) R2 q2
    have c3 := fun ρ2 C2 F2 σ2 H2 (s2 : Same F1 F2) R2 q2 => k3 ρ2 C2 F2 σ2 H2 (s1.trans s2) R2 q2
    have c4 := fun ρ2 C2 F2 σ2 H2 (s2 : Same F1 F2) R2 q2 => k4 ρ2 C2 F2 σ2 H2 (s1.trans s2) R2 q2
    cases b with
    | true => exact ⟨B, F1, ρ1, C1, A, R1, q1, c1, k2, c3, c4⟩
    | false => exact ⟨B, F1, ρ1, C1, A, R1, q1, c1, k2, c3, c4⟩⟩
theorem s_for {mi : ML} {tg : Tg} {mb : MS} {st : Stmt} (h : PS X st (tFor (rdI X.K mi) (rg X.K tg) (rdS X.K mb))) :
    PS X st (rdS X.K fun A ρ C => mi ρ C fun ds ρ1 C1 => forGo tg mb A ds ρ1 C1) := ps_weak h fun D σ H ⟨B, F, ρ, C, A, R, m, k1, k2, k3, k4⟩ =>
  ⟨B, F, ρ, C, _, R, m, fun ds ρ1 C1 F1 J H1 s1 R1 ⟨G, Y, w, hg, hy⟩ q1 => by
    refine for_it w (fun i σ H => ∃ F2 ρ2 C2, Same F1 F2 ∧ Rel X.K B F2 σ H ρ2 C2 ∧ forGo tg mb A (ds.drop i) ρ2 C2) ⟨F1, ρ1, C1, Same.refl _, R1, q1⟩ (fun i σ H _ ⟨F2, ρ2, C2, s2, R2, _⟩ => hg H (s2.trans R2.ce.fh)) (fun i x σ H H' hi pv y => ?_) (fun σ H pv => ?_)
    · obtain ⟨F2, ρ2, C2, s2, R2, q2⟩ := pv
      obtain ⟨F3, d, g, hd, rd⟩ := hy i H F2 x H' hi s2 R2.ce.fh y
      have ed : ds.drop i = d :: ds.drop (i + 1) := by
        obtain ⟨h1, h2⟩ := List.getElem?_eq_some_iff.mp hd
        rw [← h2]; exact List.drop_eq_getElem_cons h1
      rw [ed] at q2
      refine ⟨B, F3, ρ2, C2, d, _, R2.grow g, rd, q2, fun ρ3 σ3 R3 _ q3 => ⟨B, F3, ρ3, C2, _, R3, q3, fun ρ4 C4 F4 σ4 H4 s4 R4 q4 => ⟨F4, ρ4, C4, s2.trans (g.ff.trans s4), R4, q4⟩, k2, fun ρ4 C4 F4 σ4 H4 s4 R4 q4 => k1 ρ4 C4 F4 σ4 H4 (s1.trans (s2.trans (g.ff.trans s4))) R4 q4, fun ρ4 C4 F4 σ4 H4 s4 R4 q4 => ⟨F4, ρ4, C4, s2.trans (g.ff.trans s4), R4, q4⟩⟩⟩
    · obtain ⟨F2, ρ2, C2, s2, R2, q2⟩ := pv
      rw [List.drop_length] at q2
      exact k1 ρ2 C2 F2 σ H (s1.trans s2) R2 q2⟩
theorem reps_nums {K : PySem.W.Frag} {F : Hp} : ∀ {ns : List Int} {vs : List V}, Reps K F vs (ns.map .int) → vs = ns.map V.int
  | [], _, r => by cases r; rfl
  | n :: ns, _, r => by
    cases r with
    | cons r1 r2 => cases r1; rw [reps_nums r2]; rfl
theorem goC_at {a : Addr} {ns : List Int} {tg : Tg} {mb : MS} {A : AEnds} {ds : List Int} {ρ : Rho} {C : CM} (h : forGoC a ns tg mb A ds ρ C) : C a = some (.lst (ns.map .int)) := by
  cases ds with
  | nil => exact h.1
  | cons d ds => exact h.1
theorem s_forc {ma : ME} {tg : Tg} {mb : MS} {st : Stmt} (h : PS X st (tFor (iSeq X.K (rd X.K ma)) (rg X.K tg) (rdS X.K mb))) :
    PS X st (rdS X.K fun A ρ C => ma ρ C fun x ρ1 C1 => match x with
      | .ref a => ∃ ns : List Int, forGoC a ns tg mb A ns ρ1 C1
      | _ => False) := ps_weak h fun D σ H ⟨B, F, ρ, C, A, R, m, k1, k2, k3, k4⟩ =>
  ⟨B, F, ρ, C, _, R, m, fun x ρ1 C1 F1 v1 H1 s1 R1 r1 q1 => by
    try dsimp only at q1
    split at q1
    · rename_i a
      obtain ⟨ns, q1⟩ := q1
      cases r1
      have atC : ∀ {F2 : Hp} {H2 : Hp} {C2 : CM}, Cells X.K F2 H2 C2 → C2 a = some (.lst (ns.map .int)) → H2 a = some (HO.lst (ns.map V.int)) ∧ Reps X.K F2 (ns.map V.int) (ns.map .int) := fun ce hc => by
        obtain ⟨vs, hl, ra⟩ := (ce.cel _ _ hc).1
        have e := reps_nums ra
        subst e
        exact ⟨hl, ra⟩
      obtain ⟨hl1, ra1⟩ := atC R1.ce (goC_at q1)
      refine ⟨a, ns.map V.int, rfl, .inl ⟨.of hl1, ?_⟩⟩
      refine for_it walk_list (fun i σ H => ∃ F2 ρ2 C2, Same F1 F2 ∧ Rel X.K B F2 σ H ρ2 C2 ∧ forGoC a ns tg mb A (ns.drop i) ρ2 C2) ⟨F1, ρ1, C1, Same.refl _, R1, q1⟩ (fun i σ H _ ⟨F2, ρ2, C2, s2, R2, q2⟩ => .of (atC R2.ce (goC_at q2)).1) (fun i x σ H H' hi pv y => ?_) (fun σ H pv => ?_)
      · obtain ⟨F2, ρ2, C2, s2, R2, q2⟩ := pv
        obtain ⟨F3, d, g, hd, rd⟩ := it_at ra1 s2 R2.ce.fh y
        rw [List.getElem?_map] at hd
        obtain ⟨nd, hnd, rfl⟩ := Option.map_eq_some_iff.mp hd
        have ed : ns.drop i = nd :: ns.drop (i + 1) := by
          obtain ⟨h1, h2⟩ := List.getElem?_eq_some_iff.mp hnd
          rw [← h2]; exact List.drop_eq_getElem_cons h1
        rw [ed] at q2
        refine ⟨B, F3, ρ2, C2, .int nd, _, R2.grow g, rd, q2.2, fun ρ3 σ3 R3 _ q3 => ⟨B, F3, ρ3, C2, _, R3, q3, fun ρ4 C4 F4 σ4 H4 s4 R4 q4 => ⟨F4, ρ4, C4, s2.trans (g.ff.trans s4), R4, q4⟩, k2, fun ρ4 C4 F4 σ4 H4 s4 R4 q4 => k1 ρ4 C4 F4 σ4 H4 (s1.trans (s2.trans (g.ff.trans s4))) R4 q4, fun ρ4 C4 F4 σ4 H4 s4 R4 q4 => ⟨F4, ρ4, C4, s2.trans (g.ff.trans s4), R4, q4⟩⟩⟩
      · obtain ⟨F2, ρ2, C2, s2, R2, q2⟩ := pv
        rw [show ns.drop (ns.map V.int).length = [] by rw [List.length_map, List.drop_length]] at q2
        exact k1 ρ2 C2 F2 σ H (s1.trans s2) R2 q2.2
    · exact q1.elim⟩
theorem s_whl {mt : MT} {mb : MS} {st : Stmt} (h : PS X st (tWhile (rdT X.K mt) (rdS X.K mb))) :
    PS X st (rdS X.K fun A ρ C => ∃ n, whlGo mt mb A n ρ C) := ps_weak h fun D σ H ⟨B, F, ρ, C, A, R, ⟨n, m⟩, k1, k2, k3, k4⟩ => by
  refine ⟨fun n σ H => ∃ F2 ρ2 C2, Same F F2 ∧ Rel X.K B F2 σ H ρ2 C2 ∧ whlGo mt mb A n ρ2 C2, ⟨n, F, ρ, C, Same.refl _, R, m⟩, fun n σ H ⟨F2, ρ2, C2, s2, R2, q2⟩ => ?_⟩
  cases n with
  | zero => exact q2.elim
  | succ n =>
    refine ⟨B, F2, ρ2, C2, _, R2, q2, fun b ρ3 C3 F3 H3 s3 R3 q3 => ?_⟩
    cases b with
    | false => exact k1 ρ3 C3 F3 σ H3 (s2.trans s3) R3 q3
    | true =>
      refine ⟨fun σ' H' => ∃ F2 ρ2 C2, Same F F2 ∧ Rel X.K B F2 σ' H' ρ2 C2 ∧ whlGo mt mb A n ρ2 C2, fun σ' H' ⟨F4, ρ4, C4, s4, R4, q4⟩ => ⟨n, Nat.lt_succ_self n, F4, ρ4, C4, s4, R4, q4⟩,
        B, F3, ρ3, C3, _, R3, q3, fun ρ4 C4 F4 σ4 H4 s4 R4 q4 => ⟨F4, ρ4, C4, s2.trans (s3.trans s4), R4, q4⟩, k2, fun ρ4 C4 F4 σ4 H4 s4 R4 q4 => k1 ρ4 C4 F4 σ4 H4 (s2.trans (s3.trans s4)) R4 q4, fun ρ4 C4 F4 σ4 H4 s4 R4 q4 => ⟨F4, ρ4, C4, s2.trans (s3.trans s4), R4, q4⟩⟩
end
end M61

set_option Elab.async false
set_option linter.all false
set_option autoImplicit false
set_option maxRecDepth 100000
/-! M4f: statements that change lists; tests. -/
namespace M61
open PySem PySem.Spec PyProof.Rows L2
section
variable {X : Cx}
theorem varD_inv {ρ : Rho} {i : Nat} {f : D → Prop} (h : varD ρ i f) : ∃ d, ρ[i]? = some (some (Dv.dat d)) ∧ f d := by
  unfold varD at h
  split at h
  · exact ⟨_, by assumption, h⟩
  · exact h.elim
theorem s_augA {i : Nat} {me : ME} {st : Stmt} (h : PS X st (tAug i (rd X.K me) (ipI fun i j => i + j))) : PS X st (rdS X.K fun A ρ C => varD ρ i fun x => me ρ C fun y ρ1 C1 => match Bop.add, x, y with
    | .add, .int a, .int b => A.nx (ρ1.set i (some (.dat (.int (a + b))))) C1
    | .sub, .int a, .int b => A.nx (ρ1.set i (some (.dat (.int (a - b))))) C1
    | _, _, _ => False) := ps_weak h fun D σ H ⟨B, F, ρ, C, A, R, m, k1, _⟩ => by
  obtain ⟨d, hd, m⟩ := varD_inv m
  obtain ⟨v, hv, rv⟩ := R.dat i d hd
  refine ⟨v, hv, B, F, ρ, C, _, R, m, fun y ρ1 C1 F1 v1 H1 s1 R1 r1 q1 => ?_⟩
  cases d with
  | int a =>
    cases y with
    | int b =>
      cases rv; cases r1
      exact ⟨_, _, rfl, rfl, k1 _ C1 F1 _ H1 s1 (R1.setDat i (.int _)) q1⟩
    | _ => exact False.elim q1
  | _ => cases y <;> exact False.elim q1
theorem s_augS {i : Nat} {me : ME} {st : Stmt} (h : PS X st (tAug i (rd X.K me) (ipI fun i j => i - j))) : PS X st (rdS X.K fun A ρ C => varD ρ i fun x => me ρ C fun y ρ1 C1 => match Bop.sub, x, y with
    | .add, .int a, .int b => A.nx (ρ1.set i (some (.dat (.int (a + b))))) C1
    | .sub, .int a, .int b => A.nx (ρ1.set i (some (.dat (.int (a - b))))) C1
    | _, _, _ => False) := ps_weak h fun D σ H ⟨B, F, ρ, C, A, R, m, k1, _⟩ => by
  obtain ⟨d, hd, m⟩ := varD_inv m
  obtain ⟨v, hv, rv⟩ := R.dat i d hd
  refine ⟨v, hv, B, F, ρ, C, _, R, m, fun y ρ1 C1 F1 v1 H1 s1 R1 r1 q1 => ?_⟩
  cases d with
  | int a =>
    cases y with
    | int b =>
      cases rv; cases r1
      exact ⟨_, _, rfl, rfl, k1 _ C1 F1 _ H1 s1 (R1.setDat i (.int _)) q1⟩
    | _ => exact False.elim q1
  | _ => cases y <;> exact False.elim q1
theorem s_app {i : Nat} {me : ME} {st : Stmt} (h : PS X st (tDrop (tBM X.K "list" rAppend (tVar i) (tCons (rd X.K me) tNil)))) :
    PS X st (rdS X.K fun A ρ C => varO ρ i fun _ => me ρ C fun d ρ1 C1 => varO ρ1 i fun xs => xs.length < sizeLine ∧ A.nx (ρ1.set i (some (.own (xs ++ [d])))) C1) := ps_weak h fun D σ H ⟨B, F, ρ, C, A, R, m, k1, _⟩ => by
  obtain ⟨xs0, hx0, m⟩ := varO_inv m
  obtain ⟨a, vs0, e0, hl0, _⟩ := R.own i xs0 hx0
  refine ⟨_, e0, .inl ⟨rfl, vs0, .of hl0⟩, B, F, ρ, C, _, R, m, fun d ρ1 C1 F1 v1 H1 s1 R1 r1 q1 => ?_⟩
  obtain ⟨xs, hx, q1, q2⟩ := varO_inv q1
  obtain ⟨b, vs, e1, hl, ra, _⟩ := R1.own i xs hx
  rw [e0] at e1
  cases e1
  exact ⟨a, vs, v1, rfl, rfl, hl, by rw [ra.length]; exact q1, k1 _ C1 F1 σ _ s1 (R1.mutOwn hx e0 (ra.append (.cons r1 .nil))) q2⟩
theorem s_ext {i : Nat} {me : ME} {st : Stmt} (h : PS X st (tDrop (tBM X.K "list" rExtend (tVar i) (tCons (rd X.K me) tNil)))) :
    PS X st (rdS X.K fun A ρ C => varO ρ i fun _ => me ρ C fun d ρ1 C1 => varO ρ1 i fun xs => match d with
    | .lst ys => xs.length + ys.length ≤ sizeLine ∧ A.nx (ρ1.set i (some (.own (xs ++ ys)))) C1
    | _ => False) := ps_weak h fun D σ H ⟨B, F, ρ, C, A, R, m, k1, _⟩ => by
  obtain ⟨xs0, hx0, m⟩ := varO_inv m
  obtain ⟨a, vs0, e0, hl0, _⟩ := R.own i xs0 hx0
  refine ⟨_, e0, .inl ⟨rfl, vs0, .of hl0⟩, B, F, ρ, C, _, R, m, fun d ρ1 C1 F1 v1 H1 s1 R1 r1 q1 => ?_⟩
  obtain ⟨xs, hx, q1⟩ := varO_inv q1
  obtain ⟨b, vs, e1, hl, ra, _⟩ := R1.own i xs hx
  rw [e0] at e1
  cases e1
  try dsimp only at q1
  split at q1
  · obtain ⟨c, ws, rfl, hc, rc⟩ := r1.lst_inv
    exact ⟨a, c, vs, ws, rfl, rfl, hl, R1.ce.fh _ _ hc, by rw [ra.length, rc.length]; exact q1.1, k1 _ C1 F1 σ _ s1 (R1.mutOwn hx e0 (ra.append rc)) q1.2⟩
  · exact q1.elim
theorem s_oset {i : Nat} {me mk : ME} {st : Stmt} (h : PS X st (tAsg (rd X.K me) (gSub (tVar i) (rd X.K mk) rSetL))) :
    PS X st (rdS X.K fun A ρ C => me ρ C fun d ρ1 C1 => varO ρ1 i fun _ => mk ρ1 C1 fun x ρ2 C2 => varO ρ2 i fun xs => match x with
    | .int j => ∃ n, ixN xs.length j = some n ∧ A.nx (ρ2.set i (some (.own (xs.set n d)))) C2
    | _ => False) := ps_weak h fun D σ H ⟨B, F, ρ, C, A, R, m, k1, _⟩ =>
  ⟨B, F, ρ, C, _, R, m, fun d ρ1 C1 F1 v1 H1 s1 R1 r1 q1 => by
    obtain ⟨xs0, hx0, q1⟩ := varO_inv q1
    obtain ⟨a, vs0, e0, hl0, _⟩ := R1.own i xs0 hx0
    refine ⟨_, e0, B, F1, ρ1, C1, _, R1, q1, fun x ρ2 C2 F2 v2 H2 s2 R2 r2 q2 => ?_⟩
    obtain ⟨xs, hx, q2⟩ := varO_inv q2
    obtain ⟨b, vs, e1, hl, ra, _⟩ := R2.own i xs hx
    rw [e0] at e1
    cases e1
    try dsimp only at q2
    split at q2
    · cases r2
      obtain ⟨n, hn, q2⟩ := q2
      exact ⟨a, vs, _, n, rfl, rfl, hl, by rw [ra.length]; exact hn, k1 _ C2 F2 σ _ (s1.trans s2) (R2.mutOwn hx e0 (ra.set n (r1.mono s2))) q2⟩
    · exact q2.elim⟩
theorem s_csub {me mo mk : ME} {st : Stmt} (h : PS X st (tAsg (rd X.K me) (gSub (rd X.K mo) (rd X.K mk) rSetL))) :
    PS X st (rdS X.K fun A ρ C => me ρ C fun d ρ1 C1 => mo ρ1 C1 fun x ρ2 C2 => mk ρ2 C2 fun y ρ3 C3 => match x, y with
    | .ref a, .int j => ∃ xs n, C3 a = some (.lst xs) ∧ ixN xs.length j = some n ∧ A.nx ρ3 (fun b => if b = a then some (.lst (xs.set n d)) else C3 b)
    | _, _ => False) := ps_weak h fun D σ H ⟨B, F, ρ, C, A, R, m, k1, _⟩ =>
  ⟨B, F, ρ, C, _, R, m, fun d ρ1 C1 F1 v1 H1 s1 R1 r1 q1 => ⟨B, F1, ρ1, C1, _, R1, q1, fun x ρ2 C2 F2 v2 H2 s2 R2 r2 q2 => ⟨B, F2, ρ2, C2, _, R2, q2, fun y ρ3 C3 F3 v3 H3 s3 R3 r3 q3 => by
    try dsimp only at q3
    split at q3
    · cases r2; cases r3
      obtain ⟨xs, n, hc, hn, q3⟩ := q3
      obtain ⟨vs, hl, ra⟩ := (R3.ce.cel _ _ hc).1
      exact ⟨_, vs, _, n, rfl, rfl, hl, by rw [ra.length]; exact hn, k1 _ _ F3 σ _ (s1.trans (s2.trans s3)) (R3.mutCell (c' := .lst (xs.set n d)) hc ⟨_, upd_same, ra.set n ((r1.mono s2).mono s3)⟩) q3⟩
    · exact q3.elim⟩⟩⟩
theorem s_capp {mo me : ME} {st : Stmt} (h : PS X st (tDrop (tBM X.K "list" rAppend (rd X.K mo) (tCons (rd X.K me) tNil)))) :
    PS X st (rdS X.K fun A ρ C => mo ρ C fun x ρ1 C1 => match x with
    | .ref a => ∃ xs0, C1 a = some (.lst xs0) ∧ me ρ1 C1 fun d ρ2 C2 => ∃ xs, C2 a = some (.lst xs) ∧ xs.length < sizeLine ∧ A.nx ρ2 (fun b => if b = a then some (.lst (xs ++ [d])) else C2 b)
    | _ => False) := ps_weak h fun D σ H ⟨B, F, ρ, C, A, R, m, k1, _⟩ =>
  ⟨B, F, ρ, C, _, R, m, fun x ρ1 C1 F1 v1 H1 s1 R1 r1 q1 => by
    try dsimp only at q1
    split at q1
    · cases r1
      obtain ⟨xs0, hc0, q1⟩ := q1
      obtain ⟨vs0, hl0, _⟩ := (R1.ce.cel _ _ hc0).1
      refine ⟨.inl ⟨rfl, vs0, .of hl0⟩, B, F1, ρ1, C1, _, R1, q1, fun d ρ2 C2 F2 v2 H2 s2 R2 r2 ⟨xs, hc, hz, q2⟩ => ?_⟩
      obtain ⟨vs, hl, ra⟩ := (R2.ce.cel _ _ hc).1
      exact ⟨_, vs, v2, rfl, rfl, hl, by rw [ra.length]; exact hz, k1 _ _ F2 σ _ (s1.trans s2) (R2.mutCell (c' := .lst (xs ++ [d])) hc ⟨_, upd_same, ra.append (.cons r2 .nil)⟩) q2⟩
    · exact q1.elim⟩
def rIns : V → List V → Hp → VK → Prop := fun x vs H Q => ∃ (l : Addr) (xs : List V) (i : Int) (y : V), x = .ref l ∧ vs = [.int i, y] ∧ H l = some (.lst xs) ∧ xs.length < sizeLine ∧ 0 ≤ i ∧ i < 2 ^ 63 ∧
    Q .non (upd H l (.lst (xs.take i.toNat ++ [y] ++ xs.drop i.toNat)))
theorem s_cins {mo mk me : ME} {st : Stmt} (h : PS X st (tDrop (tBM X.K "list" rIns (rd X.K mo) (tCons (rd X.K mk) (tCons (rd X.K me) tNil))))) :
    PS X st (rdS X.K fun A ρ C => mo ρ C fun x ρ1 C1 => match x with
    | .ref a => ∃ xs0, C1 a = some (.lst xs0) ∧ mk ρ1 C1 fun y ρ2 C2 => me ρ2 C2 fun d ρ3 C3 => match y with
      | .int i => ∃ xs, C3 a = some (.lst xs) ∧ xs.length < sizeLine ∧ 0 ≤ i ∧ i < 2 ^ 63 ∧ A.nx ρ3 (fun b => if b = a then some (.lst (xs.take i.toNat ++ [d] ++ xs.drop i.toNat)) else C3 b)
      | _ => False
    | _ => False) := ps_weak h fun D σ H ⟨B, F, ρ, C, A, R, m, k1, _⟩ =>
  ⟨B, F, ρ, C, _, R, m, fun x ρ1 C1 F1 v1 H1 s1 R1 r1 q1 => by
    try dsimp only at q1
    split at q1
    · cases r1
      obtain ⟨xs0, hc0, q1⟩ := q1
      obtain ⟨vs0, hl0, _⟩ := (R1.ce.cel _ _ hc0).1
      refine ⟨.inl ⟨rfl, vs0, .of hl0⟩, B, F1, ρ1, C1, _, R1, q1, fun y ρ2 C2 F2 v2 H2 s2 R2 r2 q2 => ⟨B, F2, ρ2, C2, _, R2, q2, fun d ρ3 C3 F3 v3 H3 s3 R3 r3 q3 => ?_⟩⟩
      try dsimp only at q3
      split at q3
      · cases r2
        obtain ⟨xs, hc, hz, h1, h2, q3⟩ := q3
        obtain ⟨vs, hl, ra⟩ := (R3.ce.cel _ _ hc).1
        exact ⟨_, vs, _, v3, rfl, rfl, hl, by rw [ra.length]; exact hz, h1, h2, k1 _ _ F3 σ _ (s1.trans (s2.trans s3)) (R3.mutCell (c' := .lst (xs.take _ ++ [d] ++ xs.drop _)) hc ⟨_, upd_same, ((ra.take _).append (.cons r3 .nil)).append (ra.drop _)⟩) q3⟩
      · exact q3.elim
    · exact q1.elim⟩
/-! ### tests -/
theorem t_and {ma mb : MT} {e : Expr} (h : PT X e (tAnd (rdT X.K ma) (rdT X.K mb))) : PT X e (rdT X.K fun ρ C P => ma ρ C fun k ρ1 C1 => if k = true then mb ρ1 C1 P else P false ρ1 C1) :=
  pt_weak h fun σ H Q ⟨B, F, ρ, C, P, R, m, k⟩ => ⟨B, F, ρ, C, _, R, m, fun b ρ1 C1 F1 H1 s1 R1 q1 => by
    cases b with
    | false => exact k _ ρ1 C1 F1 H1 s1 R1 q1
    | true => exact ⟨B, F1, ρ1, C1, P, R1, q1, fun c ρ2 C2 F2 H2 s2 R2 q2 => k c ρ2 C2 F2 H2 (s1.trans s2) R2 q2⟩⟩
theorem t_or {ma mb : MT} {e : Expr} (h : PT X e (tOr (rdT X.K ma) (rdT X.K mb))) : PT X e (rdT X.K fun ρ C P => ma ρ C fun k ρ1 C1 => if k = true then P true ρ1 C1 else mb ρ1 C1 P) :=
  pt_weak h fun σ H Q ⟨B, F, ρ, C, P, R, m, k⟩ => ⟨B, F, ρ, C, _, R, m, fun b ρ1 C1 F1 H1 s1 R1 q1 => by
    cases b with
    | true => exact k _ ρ1 C1 F1 H1 s1 R1 q1
    | false => exact ⟨B, F1, ρ1, C1, P, R1, q1, fun c ρ2 C2 F2 H2 s2 R2 q2 => k c ρ2 C2 F2 H2 (s1.trans s2) R2 q2⟩⟩
theorem t_not {ma : MT} {e : Expr} (h : PT X e (tNot (rdT X.K ma))) : PT X e (rdT X.K fun ρ C P => ma ρ C fun k ρ1 C1 => P (!k) ρ1 C1) :=
  pt_weak h fun σ H Q ⟨B, F, ρ, C, P, R, m, k⟩ => ⟨B, F, ρ, C, _, R, m, fun b ρ1 C1 F1 H1 s1 R1 q1 => k _ ρ1 C1 F1 H1 s1 R1 q1⟩
/-- the truth of a value -/
theorem t_val {me : ME} {e : Expr} (h : PE X e (rd X.K me)) (he : ∀ whole, isTrue e X.env whole = (do let v ← whole; standAt e.pos; holding [v] (truthy v))) :
    PT X e (rdT X.K fun ρ C P => me ρ C fun d ρ1 C1 => truD d fun b => P b ρ1 C1) :=
  pt_weak (pt_truth h he) fun σ H Q ⟨B, F, ρ, C, P, R, m, k⟩ => ⟨B, F, ρ, C, _, R, m, fun d ρ1 C1 F1 v1 H1 s1 R1 r1 q1 => by
    obtain ⟨b, hb, p⟩ := tru_of R1.ce.fh r1 q1
    exact ⟨b, hb, k b ρ1 C1 F1 H1 s1 R1 p⟩⟩
/-- the truth of a comparison -/
theorem t_cmp {r : D → D → (Bool → Prop) → Prop} {ma mb : ME} {e : Expr} (h : PT X e (tTest (tOp (lift2 X.K fun d e P => r d e fun b => P (.bl b)) (rd X.K ma) (rd X.K mb)))) :
    PT X e (rdT X.K fun ρ C P => ma ρ C fun x ρ1 C1 => mb ρ1 C1 fun y ρ2 C2 => r x y fun b => P b ρ2 C2) :=
  pt_weak h fun σ H Q ⟨B, F, ρ, C, P, R, m, k⟩ => ⟨B, F, ρ, C, _, R, m, fun x ρ1 C1 F1 v1 H1 s1 R1 r1 q1 => ⟨B, F1, ρ1, C1, _, R1, q1, fun y ρ2 C2 F2 v2 H2 s2 R2 r2 q2 =>
    ⟨F2, x, y, blP fun b => P b ρ2 C2, R2.ce.fh, r1.mono s2, r2, q2, fun d F3 v3 H3 g r3 p3 => by
      obtain ⟨b, rfl, rfl, p3⟩ := blP_inv r3 p3
      exact ⟨b, rfl, k b ρ2 C2 F3 H3 (s1.trans (s2.trans g.ff)) (R2.grow g) p3⟩⟩⟩⟩
theorem t_chn {r r' : D → D → (Bool → Prop) → Prop} {ma mb mc : ME} {e : Expr} (h : PT X e (tTest (tChain (lift2 X.K fun d e P => r d e fun b => P (.bl b)) (lift2 X.K fun d e P => r' d e fun b => P (.bl b)) (rd X.K ma) (rd X.K mb) (rd X.K mc)))) :
    PT X e (rdT X.K fun ρ C P => ma ρ C fun x ρ1 C1 => mb ρ1 C1 fun y ρ2 C2 => r x y fun k => if k = true then mc ρ2 C2 fun z ρ3 C3 => r' y z fun k' => P k' ρ3 C3 else P false ρ2 C2) :=
  pt_weak h fun σ H Q ⟨B, F, ρ, C, P, R, m, k⟩ =>
  ⟨B, F, ρ, C, _, R, m, fun x ρ1 C1 F1 v1 H1 s1 R1 r1 q1 => ⟨B, F1, ρ1, C1, _, R1, q1, fun y ρ2 C2 F2 v2 H2 s2 R2 r2 q2 =>
    ⟨F2, x, y, blP fun k => if k = true then mc ρ2 C2 fun z ρ3 C3 => r' y z fun k' => P k' ρ3 C3 else P false ρ2 C2, R2.ce.fh, r1.mono s2, r2, q2, fun d F3 v3 H3 g r3 p3 => by
      obtain ⟨b, rfl, rfl, p3⟩ := blP_inv r3 p3
      refine ⟨b, rfl, ?_⟩
      cases b with
      | false => exact ⟨false, rfl, k _ ρ2 C2 F3 H3 (s1.trans (s2.trans g.ff)) (R2.grow g) p3⟩
      | true => exact ⟨B, F3, ρ2, C2, _, R2.grow g, p3, fun z ρ3 C3 F4 v4 H4 s4 R4 r4 q4 => ⟨F4, y, z, blP fun k' => P k' ρ3 C3, R4.ce.fh, (r2.mono g.ff).mono s4, r4, q4, fun d F5 v5 H5 g5 r5 p5 => by
          obtain ⟨b, rfl, rfl, p5⟩ := blP_inv r5 p5
          exact ⟨b, rfl, k _ ρ3 C3 F5 H5 (s1.trans (s2.trans (g.ff.trans (s4.trans g5.ff)))) (R4.grow g5) p5⟩⟩⟩⟩⟩⟩
theorem t_one {i : Nat} {e : Expr} (h : PT X e (tTest (tOp (rNeD X.K) (tVar i) (tLst tNil)))) :
    PT X e (rdT X.K fun ρ C P => varL ρ C i fun xs => (D.lst xs).Cmp ∧ P (!xs.isEmpty) ρ C) := pt_weak h fun σ H Q ⟨B, F, ρ, C, P, R, m, k⟩ => by
  obtain ⟨a, vs, xs, e1, hl, ra, ⟨p1, p2⟩, m⟩ := varL_rel R m
  refine ⟨_, e1, Nat.zero_le _, fun p hp => ?_⟩
  have hs := same_upd (o := HO.lst []) hp
  have R2 := (rel_fresh (vs := []) R hp).1
  refine ⟨_, _, .lst (.of (hs _ _ hl)) (reps_dp ((ra.mono R.ce.fh).mono hs) p1), .lst (.of upd_same) .nil, p2, by decide +kernel, _, rfl, ?_⟩
  have e : (!PyData.eqv (.list (D.pys xs)) (.list [])) = !xs.isEmpty := by rw [← eqv_nil xs]; rfl
  rw [e]
  exact k _ ρ C F _ (Same.refl _) R2 m
theorem t_oem {i : Nat} {e : Expr} (h : PT X e (tTest (tOp (rEqD X.K) (tVar i) (tLst tNil)))) :
    PT X e (rdT X.K fun ρ C P => varL ρ C i fun xs => (D.lst xs).Cmp ∧ P xs.isEmpty ρ C) := pt_weak h fun σ H Q ⟨B, F, ρ, C, P, R, m, k⟩ => by
  obtain ⟨a, vs, xs, e1, hl, ra, ⟨p1, p2⟩, m⟩ := varL_rel R m
  refine ⟨_, e1, Nat.zero_le _, fun p hp => ?_⟩
  have hs := same_upd (o := HO.lst []) hp
  have R2 := (rel_fresh (vs := []) R hp).1
  refine ⟨_, _, .lst (.of (hs _ _ hl)) (reps_dp ((ra.mono R.ce.fh).mono hs) p1), .lst (.of upd_same) .nil, p2, by decide +kernel, _, rfl, ?_⟩
  have e : PyData.eqv (.list (D.pys xs)) (.list []) = xs.isEmpty := by rw [← eqv_nil xs]; rfl
  rw [e]
  exact k _ ρ C F _ (Same.refl _) R2 m
theorem t_cne {ma : ME} {e : Expr} (h : PT X e (tTest (tOp (rNeD X.K) (rd X.K ma) (tLst tNil)))) :
    PT X e (rdT X.K fun ρ C P => ma ρ C fun x ρ1 C1 => ∃ xs, lstD C1 x = some xs ∧ (D.lst xs).Cmp ∧ P (!xs.isEmpty) ρ1 C1) := pt_weak h fun σ H Q ⟨B, F, ρ, C, P, R, m, k⟩ =>
  ⟨B, F, ρ, C, _, R, m, fun x ρ1 C1 F1 v1 H1 s1 R1 r1 ⟨xs, hx, ⟨p1, p2⟩, q⟩ => by
    obtain ⟨a, vs, rfl, hl, ra⟩ := lstD_rel R1.ce r1 hx
    refine ⟨Nat.zero_le _, fun p hp => ?_⟩
    have hs := same_upd (o := HO.lst []) hp
    have R2 := (rel_fresh (vs := []) R1 hp).1
    refine ⟨_, _, .lst (.of (hs _ _ hl)) (reps_dp ((ra.mono R1.ce.fh).mono hs) p1), .lst (.of upd_same) .nil, p2, by decide +kernel, _, rfl, ?_⟩
    have e : (!PyData.eqv (.list (D.pys xs)) (.list [])) = !xs.isEmpty := by rw [← eqv_nil xs]; rfl
    rw [e]
    exact k _ ρ1 C1 F1 _ s1 R2 q⟩
theorem t_ceq {ma : ME} {e : Expr} (h : PT X e (tTest (tOp (rEqD X.K) (rd X.K ma) (tLst tNil)))) :
    PT X e (rdT X.K fun ρ C P => ma ρ C fun x ρ1 C1 => ∃ xs, lstD C1 x = some xs ∧ (D.lst xs).Cmp ∧ P xs.isEmpty ρ1 C1) := pt_weak h fun σ H Q ⟨B, F, ρ, C, P, R, m, k⟩ =>
  ⟨B, F, ρ, C, _, R, m, fun x ρ1 C1 F1 v1 H1 s1 R1 r1 ⟨xs, hx, ⟨p1, p2⟩, q⟩ => by
    obtain ⟨a, vs, rfl, hl, ra⟩ := lstD_rel R1.ce r1 hx
    refine ⟨Nat.zero_le _, fun p hp => ?_⟩
    have hs := same_upd (o := HO.lst []) hp
    have R2 := (rel_fresh (vs := []) R1 hp).1
    refine ⟨_, _, .lst (.of (hs _ _ hl)) (reps_dp ((ra.mono R1.ce.fh).mono hs) p1), .lst (.of upd_same) .nil, p2, by decide +kernel, _, rfl, ?_⟩
    have e : PyData.eqv (.list (D.pys xs)) (.list []) = xs.isEmpty := by rw [← eqv_nil xs]; rfl
    rw [e]
    exact k _ ρ1 C1 F1 _ s1 R2 q⟩
/-- a comprehension's tests -/
theorem c_no : PTs X [] (rdT X.K fun ρ C P => P true ρ C) := ⟨fun pins s σ H Q I ⟨B, F, ρ, C, P, R, m, k⟩ => pts_nil.run pins s σ H Q I (k true ρ C F H (Same.refl _) R m)⟩
theorem c_yes {mt : MT} {e : Expr} (h : PT X e (rdT X.K mt)) : PTs X [e] (rdT X.K mt) := pts_one h
end
end M61

set_option Elab.async false
set_option linter.all false
set_option autoImplicit false
set_option maxRecDepth 100000
/-! M4g: zip of lists and tuples, mixed; of three. -/
namespace M61
open PySem PySem.Spec PyProof.Rows L2
def SqK (t : Bool) (K : PySem.W.Frag) (H : Hp) (a : Addr) (xs : List V) : Prop := match t with
  | true => SqT K H a xs
  | false => SqL K H a xs
def IterK (t : Bool) (h : Heap) (it a : Addr) (i : Nat) : Prop := match t with
  | true => h.IsTupleIter it a i
  | false => h.IsListIter it a i
def HeldK (t : Bool) (h : Heap) (a : Addr) (its : Array Value) : Prop := match t with
  | true => h.IsTuple a its
  | false => h.IsList a its
def itObj (t : Bool) (a : Addr) : Obj := match t with
  | true => { cls := .type "tuple_iterator", data := .fields #[.ref a, .int 0 0] }
  | false => { cls := .type "list_iterator", data := .fields #[.ref a, .int 0 0] }
theorem drawsK {P : Program} {w : World} {A : Around} (t : Bool) (hh : A.handled = none) (it a : Addr) (hne : a ≠ it) (its : Array Value) :
    Draws P w A it [it, a] its.size (fun i v => its[i]? = some v) (fun i h => IterK t h it a i ∧ HeldK t h a its) := by
  cases t
  · exact Draws.list hh it a hne its
  · exact Draws.tuple hh it a hne its
theorem beginsK (t : Bool) (a : Addr) (its : Array Value) : Begins (.ref a) (itObj t a) (fun h => HeldK t h a its) := by
  cases t
  · exact begins_list a its
  · exact begins_tuple a its
theorem seqK {X : Cx} {pins : List (Addr × Obj)} {σ : L2.St} {H : Hp} {s : Shared} (t : Bool) (I : Inv X pins σ H s) {a : Addr} {xs : List V} (h : SqK t X.K H a xs) : ∃ its : List Value, Vals xs its ∧ HeldK t s.heap a its.toArray := by
  cases t
  · obtain ⟨its, r, p, _⟩ := I.list h; exact ⟨its, r, p.isList⟩
  · obtain ⟨its, r, p, _⟩ := I.tuple h; exact ⟨its, r, (show s.heap.IsTuple a its.toArray from p)⟩
theorem injK {X : Cx} {pins : List (Addr × Obj)} {σ : L2.St} {H : Hp} {s : Shared} {t : Bool} (I : Inv X pins σ H s) {a : Addr} {xs ys : List V} (h : SqK t X.K H a xs) (h' : SqK t X.K H a ys) : xs = ys := by
  cases t
  · exact I.list_inj h h'
  · exact I.tuple_inj h h'
theorem IterK.at {t : Bool} {h h' : Heap} {it a : Addr} {i : Nat} (r : IterK t h it a i) (k : ∀ o, h.get? it = some o → h'.get? it = some o) : IterK t h' it a i := by
  cases t
  · exact (show h.IsListIter it a i from r).at k
  · exact (show h.IsTupleIter it a i from r).at k
theorem IterK.obj {t : Bool} {h : Heap} {it a : Addr} {i : Nat} (r : IterK t h it a i) : ∃ o, h.get? it = some o ∧ ∀ v, o.data ≠ .cell v := by
  cases t
  · obtain ⟨o, e, _, d⟩ := (show h.IsListIter it a i from r); exact ⟨o, e, fun v q => by rw [d] at q; cases q⟩
  · obtain ⟨o, e, _, d⟩ := (show h.IsTupleIter it a i from r); exact ⟨o, e, fun v q => by rw [d] at q; cases q⟩
theorem IterK.new {t : Bool} {h : Heap} {it a : Addr} (g : h.get? it = some (itObj t a)) : IterK t h it a 0 := by
  cases t
  · exact ⟨_, g, rfl, rfl⟩
  · exact ⟨_, g, rfl, rfl⟩
theorem HeldK.lt {t : Bool} {h : Heap} {a : Addr} {its : Array Value} (r : HeldK t h a its) : a < h.objs.size := by
  cases t
  · obtain ⟨o, e, _⟩ := (show h.IsList a its from r); exact Heap.lt_size e
  · obtain ⟨o, e, _⟩ := (show h.IsTuple a its from r); exact Heap.lt_size e
def ItzK (ta tb : Bool) (K : PySem.W.Frag) (a b : Addr) : It :=
  ⟨fun i H => ∃ (xs ys : List V) (x y : V), SqK ta K H a xs ∧ SqK tb K H b ys ∧ xs[i]? = some x ∧ ys[i]? = some y,
    fun i H v H' => ∃ T x y, v = .ref T ∧ H T = none ∧ H' = upd H T (.tup [x, y]) ∧ (∀ xs, SqK ta K H a xs → xs[i]? = some x) ∧ ∀ ys, SqK tb K H b ys → ys[i]? = some y,
    fun i H => ∃ xs ys : List V, SqK ta K H a xs ∧ SqK tb K H b ys ∧ i = min xs.length ys.length⟩
theorem turn_zipK {P : Program} {w : World} {K : PySem.W.Frag} {elts : List Expr} {kk : Nat} {tpos : Pos} {ta tb : Bool} {a b z TI TO i1 i2 : Addr} (S : ZipSep2 z TI TO i1 i2 [i1, a] [i2, b]) (n1 : a ≠ i1) (n2 : b ≠ i2) (z1 : z ≠ i1) (z2 : z ≠ i2) :
    Turn P w K (.Tuple elts kk tpos) (ItzK ta tb K a b) [z, TI, TO, i1, i2] z (fun i h => IsZip h z TI TO .none ∧ IsTupOf2 h TI (.ref i1) (.ref i2) ∧ (∃ x y, IsTupOf2 h TO x y) ∧ IterK ta h i1 a i ∧ IterK tb h i2 b i) where
  mem := by simp
  obj := fun i h st c hc => by
    obtain ⟨hz, hTI, ⟨x, y, hTO⟩, h1, h2⟩ := st
    have e' : c = z ∨ c = TI ∨ c = TO ∨ c = i1 ∨ c = i2 := by simpa using hc
    rcases e' with q | q | q | q | q
    · rw [q]; exact ⟨_, hz, fun v q => nomatch q⟩
    · rw [q]; exact ⟨_, hTI, fun v q => nomatch q⟩
    · rw [q]; exact ⟨_, hTO, fun v q => nomatch q⟩
    · rw [q]; exact h1.obj
    · rw [q]; exact h2.obj
  keep := fun i h h' st k => by
    obtain ⟨hz, hTI, ⟨x, y, hTO⟩, h1, h2⟩ := st
    exact ⟨k z (by simp) _ hz, k TI (by simp) _ hTI, ⟨x, y, k TO (by simp) _ hTO⟩, h1.at fun o q => k i1 (by simp) o q, h2.at fun o q => k i2 (by simp) o q⟩
  item := by
    intro X hP hw hK hc i pins s σ H E I hf st hg
    subst hP hw hK
    obtain ⟨hz, hTI, ⟨x0, y0, hTO⟩, h1, h2⟩ := st
    obtain ⟨xs, ys, x, y, hqx, hqy, hx, hy⟩ := hg
    obtain ⟨its, rv, p⟩ := seqK ta I hqx
    obtain ⟨its2, rv2, p2⟩ := seqK tb I hqy
    obtain ⟨u, hu, ru⟩ := rv.get hx
    obtain ⟨u2, hu2, ru2⟩ := rv2.get hy
    have hzl : z < s.heap.objs.size := Heap.lt_size hz
    obtain ⟨o1, e1, _⟩ := h1.obj
    obtain ⟨o2, e2, _⟩ := h2.obj
    have b1 : i < its.length := by rcases Nat.lt_or_ge i its.length with q | q; exact q; rw [List.getElem?_eq_none q] at hu; cases hu
    have b2 : i < its2.length := by rcases Nat.lt_or_ge i its2.length with q | q; exact q; rw [List.getElem?_eq_none q] at hu2; cases hu2
    refine wpAny_pyNext_zipD2_item S (drawsK ta (show X.A.in1.handled = none from I.ok.hd hc) i1 a n1 its.toArray) (drawsK tb (show X.A.in1.handled = none from I.ok.hd hc) i2 b n2 its2.toArray) hz hTI hTO ⟨h1, p⟩ ⟨h2, p2⟩ (by simpa using b1) (by simpa using b2) fun v v2 h' tk hv hv2 z' TO' d1 d2 hT hsz hk => ?_
    have ev : v = u := by
      have : its[i]? = some v := by simpa using hv
      rw [hu] at this; cases this; rfl
    have ev2 : v2 = u2 := by
      have : its2[i]? = some v2 := by simpa using hv2
      rw [hu2] at this; cases this; rfl
    subst ev ev2
    refine ⟨_, rfl, wpAny_letOwnedTupleGo_zip (s := { s with heap := h', toks := tk }) z' fun h'' z'' sb => ?_⟩
    have hT2 : h''.get? s.heap.objs.size = some { cls := .type "tuple", data := .seq #[v, v2] } := (sb.2 _ (Nat.ne_of_gt hzl)).trans hT
    have new : ObjOk X.prog X.w (upd H s.heap.objs.size (.tup [x, y])) h'' s.heap.objs.size (.tup [x, y]) :=
      ⟨by show 2 ≤ sizeLine; decide, [v, v2], .cons ru (.cons ru2 .nil), ⟨_, hT2, rfl, _, rfl⟩⟩
    have I1 : Inv X pins σ (upd H s.heap.objs.size (.tup [x, y])) { s with heap := h'', toks := tk } :=
      I.turnedNew (t' := tk) (ch := [z, TI, TO, i1, i2]) (fun c o hb q => (sb.2 c (fun q' => hb (by simp [q']))).trans (hk c o (fun q' => hb (by simp [q'])) (fun q' => hb (by simp [q'])) (fun q' => hb (by simp [q'])) (fun q' => hb (by simp [q'])) q)) hf (Nat.le_refl _) new
    refine ⟨.ref s.heap.objs.size, _, I1, rfl, ⟨_, x, y, rfl, I.hok.fresh (Nat.le_refl _), rfl, fun l hl => by rw [injK I hl hqx]; exact hx, fun l hl => by rw [injK I hl hqy]; exact hy⟩, ⟨z'', ?_, ⟨v, v2, ?_⟩, ?_, ?_⟩, fun c hcm => ?_⟩
    · exact (sb.2 _ S.TIz).trans (hk _ _ S.TIz S.TITO S.TIi1 S.TIi2 hTI)
    · exact (sb.2 _ S.TOz).trans TO'
    · exact d1.1.at fun o q => (sb.2 _ (fun e => z1 e.symm)).trans q
    · exact d2.1.at fun o q => (sb.2 _ (fun e => z2 e.symm)).trans q
    · have hlt : c < s.heap.objs.size := by
        have e' : c = z ∨ c = TI ∨ c = TO ∨ c = i1 ∨ c = i2 := by simpa using hcm
        rcases e' with q | q | q | q | q
        · rw [q]; exact hzl
        · rw [q]; exact Heap.lt_size hTI
        · rw [q]; exact Heap.lt_size hTO
        · rw [q]; exact Heap.lt_size e1
        · rw [q]; exact Heap.lt_size e2
      rw [upd_ne (Nat.ne_of_lt hlt)]
      exact (hf c hcm).1
  done := by
    intro X hP hw hK hc i pins s σ H E I hf st hg
    subst hP hw hK
    obtain ⟨hz, hTI, ⟨x0, y0, hTO⟩, h1, h2⟩ := st
    obtain ⟨xs, ys, hqx, hqy, hend⟩ := hg
    obtain ⟨its, rv, p⟩ := seqK ta I hqx
    obtain ⟨its2, rv2, p2⟩ := seqK tb I hqy
    have l1 := rv.length
    have l2 := rv2.length
    refine wpAny_pyNext_zipD2_end S (drawsK ta (show X.A.in1.handled = none from I.ok.hd hc) i1 a n1 its.toArray) (drawsK tb (show X.A.in1.handled = none from I.ok.hd hc) i2 b n2 its2.toArray) hz hTI hTO ⟨h1, p⟩ ⟨h2, p2⟩ ?_ ?_ ?_ fun h' tk hk => ⟨rfl, I.turnedL (t' := tk) (ch := [z, TI, TO, i1, i2]) (fun c o hb q =>
      hk c o (fun q' => hb (by simp [q'])) (fun q' => hb (by simp [q'])) (fun q' => hb (by simp [q'])) (fun q' => hb (by simp [q'])) q) hf⟩
    · show i ≤ its.toArray.size
      rw [List.size_toArray]; omega
    · show i ≤ its2.toArray.size
      rw [List.size_toArray]; omega
    · show i = its.toArray.size ∨ i = its2.toArray.size
      rw [List.size_toArray, List.size_toArray]; omega
  self := fun A i s Q E st h => wpAny_pyIter_zip st.1 h
def iZipK (K : PySem.W.Frag) (t : TA) : TI := fun σ H R => t σ H fun vs H1 => ∃ ta tb a b xs ys, vs = [.ref a, .ref b] ∧ SqK ta K H1 a xs ∧ SqK tb K H1 b ys ∧ R (ItzK ta tb K a b) H1
theorem pi_zipK {X : Cx} {e e2 : Expr} {t : TA} {p pos tpos : Pos} {elts : List Expr} {kk : Nat} (hg : Gl X "zip") (hm : X.mg "zip" = none) (ha : PA X [e, e2] t)
    (hs : starEach [e, e2] X.env = (false, eval e X.env) :: starEach [e2] X.env := by rfl) (hpl : (backTo pos (starEach [e2] X.env)).any (·.1) = false := by rfl) :
    PI X (.Tuple elts kk tpos) (.Call (.Name "zip" p) [e, e2] [] pos) (iZipK X.K t) := by
  refine ⟨fun pins s σ H R I h => ?_⟩
  refine Call_ (ld_blt I hg hm PyProof.Rows.boot_zip (PyProof.Rows.callWith_type1 (thn (ha.run pos pins s σ H _ I h) fun us s1 ⟨vs, H1, I1, r1, q1⟩ => ?_) hs hpl))
  obtain ⟨ta, tb, a, b, xs, ys, ex, hqx, hqy, q⟩ := q1
  subst ex
  cases r1 with
  | cons r rr =>
    cases rr with
    | cons r' rr =>
      cases rr
      cases r
      cases r'
      have fresh5 : ∀ c, c ∈ [s1.heap.objs.size + 4, s1.heap.objs.size + 2, s1.heap.objs.size + 3, s1.heap.objs.size, s1.heap.objs.size + 1] → FpOk X pins H1 c := fun c hcm => by
        have e' : c = s1.heap.objs.size + 4 ∨ c = s1.heap.objs.size + 2 ∨ c = s1.heap.objs.size + 3 ∨ c = s1.heap.objs.size ∨ c = s1.heap.objs.size + 1 := by simpa using hcm
        have hle : s1.heap.objs.size ≤ c := by
          rcases e' with z | z | z | z | z <;> rw [z] <;> first | exact Nat.le_add_right _ _ | exact Nat.le_refl _
        exact I1.fpOk hle (I1.hok.fresh hle)
      obtain ⟨its, rv, p1⟩ := seqK ta I1 hqx
      obtain ⟨its2, rv2, p2⟩ := seqK tb I1 hqy
      have la := p1.lt
      have lb := p2.lt
      refine zip_begins2 (beginsK ta a its.toArray) (beginsK tb b its2.toArray) p1 p2 fun h' hz hTI hTO g1 g2 hsz hk => wpAny_pyIter_zip hz ?_
      have I2 : Inv X pins σ H1 { s1 with heap := h' } := I1.kept (t' := s1.toks) hk
      exact ⟨s1.heap.objs.size + 4, [s1.heap.objs.size + 4, s1.heap.objs.size + 2, s1.heap.objs.size + 3, s1.heap.objs.size, s1.heap.objs.size + 1], _, _, H1, rfl, I2,
        turn_zipK (zip_sep2 (fun c h => by rw [List.mem_singleton.mp h]; exact la) (fun c h => by rw [List.mem_singleton.mp h]; exact lb)) (Nat.ne_of_lt la) (Nat.ne_of_lt (Nat.lt_succ_of_lt lb)) (by show s1.heap.objs.size + 4 ≠ s1.heap.objs.size; omega) (by show s1.heap.objs.size + 4 ≠ s1.heap.objs.size + 1; omega),
        ⟨hz, hTI, ⟨_, _, hTO⟩, .new g1, .new g2⟩, fresh5, q⟩
/-! three -/
def ItzK3 (ta tb tc : Bool) (K : PySem.W.Frag) (a b d : Addr) : It :=
  ⟨fun i H => ∃ (xs ys zs : List V) (x y z : V), SqK ta K H a xs ∧ SqK tb K H b ys ∧ SqK tc K H d zs ∧ xs[i]? = some x ∧ ys[i]? = some y ∧ zs[i]? = some z,
    fun i H v H' => ∃ T x y z, v = .ref T ∧ H T = none ∧ H' = upd H T (.tup [x, y, z]) ∧ (∀ xs, SqK ta K H a xs → xs[i]? = some x) ∧ (∀ ys, SqK tb K H b ys → ys[i]? = some y) ∧ ∀ zs, SqK tc K H d zs → zs[i]? = some z,
    fun i H => ∃ xs ys zs : List V, SqK ta K H a xs ∧ SqK tb K H b ys ∧ SqK tc K H d zs ∧ i = min xs.length (min ys.length zs.length)⟩
theorem turn_zipK3 {P : Program} {w : World} {K : PySem.W.Frag} {elts : List Expr} {kk : Nat} {tpos : Pos} {ta tb tc : Bool} {a b d z TI TO i1 i2 i3 : Addr} (S : ZipSep3 z TI TO i1 i2 i3 [i1, a] [i2, b] [i3, d]) (n1 : a ≠ i1) (n2 : b ≠ i2) (n3 : d ≠ i3) (z1 : z ≠ i1) (z2 : z ≠ i2) (z3 : z ≠ i3) :
    Turn P w K (.Tuple elts kk tpos) (ItzK3 ta tb tc K a b d) [z, TI, TO, i1, i2, i3] z (fun i h => IsZip h z TI TO .none ∧ IsTupOf3 h TI (.ref i1) (.ref i2) (.ref i3) ∧ (∃ x y u, IsTupOf3 h TO x y u) ∧ IterK ta h i1 a i ∧ IterK tb h i2 b i ∧ IterK tc h i3 d i) where
  mem := by simp
  obj := fun i h st c hc => by
    obtain ⟨hz, hTI, ⟨x, y, u, hTO⟩, h1, h2, h3⟩ := st
    have e' : c = z ∨ c = TI ∨ c = TO ∨ c = i1 ∨ c = i2 ∨ c = i3 := by simpa using hc
    rcases e' with q | q | q | q | q | q
    · rw [q]; exact ⟨_, hz, fun v q => nomatch q⟩
    · rw [q]; exact ⟨_, hTI, fun v q => nomatch q⟩
    · rw [q]; exact ⟨_, hTO, fun v q => nomatch q⟩
    · rw [q]; exact h1.obj
    · rw [q]; exact h2.obj
    · rw [q]; exact h3.obj
  keep := fun i h h' st k => by
    obtain ⟨hz, hTI, ⟨x, y, u, hTO⟩, h1, h2, h3⟩ := st
    exact ⟨k z (by simp) _ hz, k TI (by simp) _ hTI, ⟨x, y, u, k TO (by simp) _ hTO⟩, h1.at fun o q => k i1 (by simp) o q, h2.at fun o q => k i2 (by simp) o q, h3.at fun o q => k i3 (by simp) o q⟩
  item := by
    intro X hP hw hK hc i pins s σ H E I hf st hg
    subst hP hw hK
    obtain ⟨hz, hTI, ⟨x0, y0, u0, hTO⟩, h1, h2, h3⟩ := st
    obtain ⟨xs, ys, zs, x, y, t, hqx, hqy, hqz, hx, hy, ht⟩ := hg
    obtain ⟨its, rv, p⟩ := seqK ta I hqx
    obtain ⟨its2, rv2, p2⟩ := seqK tb I hqy
    obtain ⟨its3, rv3, p3⟩ := seqK tc I hqz
    obtain ⟨u, hu, ru⟩ := rv.get hx
    obtain ⟨u2, hu2, ru2⟩ := rv2.get hy
    obtain ⟨u3, hu3, ru3⟩ := rv3.get ht
    have hzl : z < s.heap.objs.size := Heap.lt_size hz
    obtain ⟨o1, e1, _⟩ := h1.obj
    obtain ⟨o2, e2, _⟩ := h2.obj
    obtain ⟨o3, e3, _⟩ := h3.obj
    have b1 : i < its.length := by rcases Nat.lt_or_ge i its.length with q | q; exact q; rw [List.getElem?_eq_none q] at hu; cases hu
    have b2 : i < its2.length := by rcases Nat.lt_or_ge i its2.length with q | q; exact q; rw [List.getElem?_eq_none q] at hu2; cases hu2
    have b3 : i < its3.length := by rcases Nat.lt_or_ge i its3.length with q | q; exact q; rw [List.getElem?_eq_none q] at hu3; cases hu3
    refine wpAny_pyNext_zipD3_item S (drawsK ta (show X.A.in1.handled = none from I.ok.hd hc) i1 a n1 its.toArray) (drawsK tb (show X.A.in1.handled = none from I.ok.hd hc) i2 b n2 its2.toArray) (drawsK tc (show X.A.in1.handled = none from I.ok.hd hc) i3 d n3 its3.toArray) hz hTI hTO ⟨h1, p⟩ ⟨h2, p2⟩ ⟨h3, p3⟩ (by simpa using b1) (by simpa using b2) (by simpa using b3) fun v v2 v3 h' tk hv hv2 hv3 z' TO' d1 d2 d3 hT hsz hk => ?_
    have ev : v = u := by
      have : its[i]? = some v := by simpa using hv
      rw [hu] at this; cases this; rfl
    have ev2 : v2 = u2 := by
      have : its2[i]? = some v2 := by simpa using hv2
      rw [hu2] at this; cases this; rfl
    have ev3 : v3 = u3 := by
      have : its3[i]? = some v3 := by simpa using hv3
      rw [hu3] at this; cases this; rfl
    subst ev ev2 ev3
    refine ⟨_, rfl, wpAny_letOwnedTupleGo_zip (s := { s with heap := h', toks := tk }) z' fun h'' z'' sb => ?_⟩
    have hT2 : h''.get? s.heap.objs.size = some { cls := .type "tuple", data := .seq #[v, v2, v3] } := (sb.2 _ (Nat.ne_of_gt hzl)).trans hT
    have new : ObjOk X.prog X.w (upd H s.heap.objs.size (.tup [x, y, t])) h'' s.heap.objs.size (.tup [x, y, t]) :=
      ⟨by show 3 ≤ sizeLine; decide, [v, v2, v3], .cons ru (.cons ru2 (.cons ru3 .nil)), ⟨_, hT2, rfl, _, rfl⟩⟩
    have I1 : Inv X pins σ (upd H s.heap.objs.size (.tup [x, y, t])) { s with heap := h'', toks := tk } :=
      I.turnedNew (t' := tk) (ch := [z, TI, TO, i1, i2, i3]) (fun c o hb q => (sb.2 c (fun q' => hb (by simp [q']))).trans (hk c o (fun q' => hb (by simp [q'])) (fun q' => hb (by simp [q'])) (fun q' => hb (by simp [q'])) (fun q' => hb (by simp [q'])) (fun q' => hb (by simp [q'])) q)) hf (Nat.le_refl _) new
    refine ⟨.ref s.heap.objs.size, _, I1, rfl, ⟨_, x, y, t, rfl, I.hok.fresh (Nat.le_refl _), rfl, fun l hl => by rw [injK I hl hqx]; exact hx, fun l hl => by rw [injK I hl hqy]; exact hy, fun l hl => by rw [injK I hl hqz]; exact ht⟩, ⟨z'', ?_, ⟨v, v2, v3, ?_⟩, ?_, ?_, ?_⟩, fun c hcm => ?_⟩
    · exact (sb.2 _ S.TIz).trans (hk _ _ S.TIz S.TITO S.TIi1 S.TIi2 S.TIi3 hTI)
    · exact (sb.2 _ S.TOz).trans TO'
    · exact d1.1.at fun o q => (sb.2 _ (fun e => z1 e.symm)).trans q
    · exact d2.1.at fun o q => (sb.2 _ (fun e => z2 e.symm)).trans q
    · exact d3.1.at fun o q => (sb.2 _ (fun e => z3 e.symm)).trans q
    · have hlt : c < s.heap.objs.size := by
        have e' : c = z ∨ c = TI ∨ c = TO ∨ c = i1 ∨ c = i2 ∨ c = i3 := by simpa using hcm
        rcases e' with q | q | q | q | q | q
        · rw [q]; exact hzl
        · rw [q]; exact Heap.lt_size hTI
        · rw [q]; exact Heap.lt_size hTO
        · rw [q]; exact Heap.lt_size e1
        · rw [q]; exact Heap.lt_size e2
        · rw [q]; exact Heap.lt_size e3
      rw [upd_ne (Nat.ne_of_lt hlt)]
      exact (hf c hcm).1
  done := by
    intro X hP hw hK hc i pins s σ H E I hf st hg
    subst hP hw hK
    obtain ⟨hz, hTI, ⟨x0, y0, u0, hTO⟩, h1, h2, h3⟩ := st
    obtain ⟨xs, ys, zs, hqx, hqy, hqz, hend⟩ := hg
    obtain ⟨its, rv, p⟩ := seqK ta I hqx
    obtain ⟨its2, rv2, p2⟩ := seqK tb I hqy
    obtain ⟨its3, rv3, p3⟩ := seqK tc I hqz
    have l1 := rv.length
    have l2 := rv2.length
    have l3 := rv3.length
    refine wpAny_pyNext_zipD3_end S (drawsK ta (show X.A.in1.handled = none from I.ok.hd hc) i1 a n1 its.toArray) (drawsK tb (show X.A.in1.handled = none from I.ok.hd hc) i2 b n2 its2.toArray) (drawsK tc (show X.A.in1.handled = none from I.ok.hd hc) i3 d n3 its3.toArray) hz hTI hTO ⟨h1, p⟩ ⟨h2, p2⟩ ⟨h3, p3⟩ ?_ ?_ ?_ ?_ fun h' tk hk => ⟨rfl, I.turnedL (t' := tk) (ch := [z, TI, TO, i1, i2, i3]) (fun c o hb q =>
      hk c o (fun q' => hb (by simp [q'])) (fun q' => hb (by simp [q'])) (fun q' => hb (by simp [q'])) (fun q' => hb (by simp [q'])) (fun q' => hb (by simp [q'])) q) hf⟩
    · show i ≤ its.toArray.size
      rw [List.size_toArray]; omega
    · show i ≤ its2.toArray.size
      rw [List.size_toArray]; omega
    · show i ≤ its3.toArray.size
      rw [List.size_toArray]; omega
    · show i = its.toArray.size ∨ i = its2.toArray.size ∨ i = its3.toArray.size
      rw [List.size_toArray, List.size_toArray, List.size_toArray]; omega
  self := fun A i s Q E st h => wpAny_pyIter_zip st.1 h
def iZipK3 (K : PySem.W.Frag) (t : TA) : TI := fun σ H R => t σ H fun vs H1 => ∃ ta tb tc a b d xs ys zs, vs = [.ref a, .ref b, .ref d] ∧ SqK ta K H1 a xs ∧ SqK tb K H1 b ys ∧ SqK tc K H1 d zs ∧ R (ItzK3 ta tb tc K a b d) H1
theorem pi_zipK3 {X : Cx} {e e2 e3 : Expr} {t : TA} {p pos tpos : Pos} {elts : List Expr} {kk : Nat} (hg : Gl X "zip") (hm : X.mg "zip" = none) (ha : PA X [e, e2, e3] t)
    (hs : starEach [e, e2, e3] X.env = (false, eval e X.env) :: starEach [e2, e3] X.env := by rfl) (hpl : (backTo pos (starEach [e2, e3] X.env)).any (·.1) = false := by rfl) :
    PI X (.Tuple elts kk tpos) (.Call (.Name "zip" p) [e, e2, e3] [] pos) (iZipK3 X.K t) := by
  refine ⟨fun pins s σ H R I h => ?_⟩
  refine Call_ (ld_blt I hg hm PyProof.Rows.boot_zip (PyProof.Rows.callWith_type1 (thn (ha.run pos pins s σ H _ I h) fun us s1 ⟨vs, H1, I1, r1, q1⟩ => ?_) hs hpl))
  obtain ⟨ta, tb, tc, a, b, d, xs, ys, zs, ex, hqx, hqy, hqz, q⟩ := q1
  subst ex
  cases r1 with
  | cons r rr =>
    cases rr with
    | cons r' rr =>
      cases rr with
      | cons r'' rr =>
        cases rr
        cases r
        cases r'
        cases r''
        have fresh6 : ∀ c, c ∈ [s1.heap.objs.size + 5, s1.heap.objs.size + 3, s1.heap.objs.size + 4, s1.heap.objs.size, s1.heap.objs.size + 1, s1.heap.objs.size + 2] → FpOk X pins H1 c := fun c hcm => by
          have e' : c = s1.heap.objs.size + 5 ∨ c = s1.heap.objs.size + 3 ∨ c = s1.heap.objs.size + 4 ∨ c = s1.heap.objs.size ∨ c = s1.heap.objs.size + 1 ∨ c = s1.heap.objs.size + 2 := by simpa using hcm
          have hle : s1.heap.objs.size ≤ c := by
            rcases e' with z | z | z | z | z | z <;> rw [z] <;> first | exact Nat.le_add_right _ _ | exact Nat.le_refl _
          exact I1.fpOk hle (I1.hok.fresh hle)
        obtain ⟨its, rv, p1⟩ := seqK ta I1 hqx
        obtain ⟨its2, rv2, p2⟩ := seqK tb I1 hqy
        obtain ⟨its3, rv3, p3⟩ := seqK tc I1 hqz
        have la := p1.lt
        have lb := p2.lt
        have lc := p3.lt
        refine zip_begins3 (beginsK ta a its.toArray) (beginsK tb b its2.toArray) (beginsK tc d its3.toArray) p1 p2 p3 fun h' hz hTI hTO g1 g2 g3 hsz hk => wpAny_pyIter_zip hz ?_
        have I2 : Inv X pins σ H1 { s1 with heap := h' } := I1.kept (t' := s1.toks) hk
        exact ⟨s1.heap.objs.size + 5, [s1.heap.objs.size + 5, s1.heap.objs.size + 3, s1.heap.objs.size + 4, s1.heap.objs.size, s1.heap.objs.size + 1, s1.heap.objs.size + 2], _, _, H1, rfl, I2,
          turn_zipK3 (zip_sep3 (fun c h => by rw [List.mem_singleton.mp h]; exact la) (fun c h => by rw [List.mem_singleton.mp h]; exact lb) (fun c h => by rw [List.mem_singleton.mp h]; exact lc)) (Nat.ne_of_lt la) (Nat.ne_of_lt (Nat.lt_succ_of_lt lb)) (Nat.ne_of_lt (Nat.lt_succ_of_lt (Nat.lt_succ_of_lt lc))) (by show s1.heap.objs.size + 5 ≠ s1.heap.objs.size; omega) (by show s1.heap.objs.size + 5 ≠ s1.heap.objs.size + 1; omega) (by show s1.heap.objs.size + 5 ≠ s1.heap.objs.size + 2; omega),
          ⟨hz, hTI, ⟨_, _, _, hTO⟩, .new g1, .new g2, .new g3⟩, fresh6, q⟩
/-! the readings -/
theorem walk_zipK {K : PySem.W.Frag} {ta tb : Bool} {a b : Addr} {xs ys : List V} {n : Nat} (hn : n = min xs.length ys.length) : Walk (ItzK ta tb K a b) n (fun H => SqK ta K H a xs ∧ SqK tb K H b ys) (YPair (fun i => xs[i]?) (fun i => ys[i]?)) := by
  subst hn
  refine ⟨fun i _ hi q => ?_, fun _ q => ⟨xs, ys, q.1, q.2, rfl⟩, fun i H v H' _ q y => ?_⟩
  · have h1 : i < xs.length := by omega
    have h2 : i < ys.length := by omega
    exact ⟨xs, ys, xs[i], ys[i], q.1, q.2, by simp [h1], by simp [h2]⟩
  · obtain ⟨T, x, z, h1, h2, h3, h4, h5⟩ := y
    exact ⟨T, x, z, h1, h2, h3, h4 xs q.1, h5 ys q.2⟩
def YTrip (xs ys zs : Nat → Option V) : Nat → Hp → V → Hp → Prop := fun i H v H' => ∃ T x y z, v = .ref T ∧ H T = none ∧ H' = upd H T (.tup [x, y, z]) ∧ xs i = some x ∧ ys i = some y ∧ zs i = some z
theorem walk_zipK3 {K : PySem.W.Frag} {ta tb tc : Bool} {a b d : Addr} {xs ys zs : List V} {n : Nat} (hn : n = min xs.length (min ys.length zs.length)) : Walk (ItzK3 ta tb tc K a b d) n (fun H => SqK ta K H a xs ∧ SqK tb K H b ys ∧ SqK tc K H d zs) (YTrip (fun i => xs[i]?) (fun i => ys[i]?) (fun i => zs[i]?)) := by
  subst hn
  refine ⟨fun i _ hi q => ?_, fun _ q => ⟨xs, ys, zs, q.1, q.2.1, q.2.2, rfl⟩, fun i H v H' _ q y => ?_⟩
  · have h1 : i < xs.length := by omega
    have h2 : i < ys.length := by omega
    have h3 : i < zs.length := by omega
    exact ⟨xs, ys, zs, xs[i], ys[i], zs[i], q.1, q.2.1, q.2.2, by simp [h1], by simp [h2], by simp [h3]⟩
  · obtain ⟨T, x, z, t, h1, h2, h3, h4, h5, h6⟩ := y
    exact ⟨T, x, z, t, h1, h2, h3, h4 xs q.1, h5 ys q.2.1, h6 zs q.2.2⟩
theorem seqK_same {t : Bool} {K : PySem.W.Frag} {F F' : Hp} {a : Addr} {xs : List V} (s : Same F F') (h : SqK t K F a xs) : SqK t K F' a xs := by
  cases t
  · exact s.seq h
  · exact sqT_same s h
theorem sqD_inv {K : PySem.W.Frag} {F : Hp} {v : V} {d : D} {xs : List D} (r : Rep K F v d) (h : sqD d = some xs) : ∃ t a vs, v = .ref a ∧ SqK t K F a vs ∧ Reps K F vs xs := by
  unfold sqD at h
  split at h
  · cases h
    obtain ⟨a, vs, rfl, ha, ra⟩ := r.tup_inv
    exact ⟨true, a, vs, rfl, ha, ra⟩
  · cases h
    obtain ⟨a, vs, rfl, ha, ra⟩ := r.lst_inv
    exact ⟨false, a, vs, rfl, SqL.of ha, ra⟩
  · cases h
theorem zip3D_len : ∀ xs ys zs : List D, (zip3D xs ys zs).length = min xs.length (min ys.length zs.length)
  | [], _, _ => by simp [zip3D]
  | _ :: _, [], _ => by simp [zip3D]
  | _ :: _, _ :: _, [] => by simp [zip3D]
  | x :: xs, y :: ys, z :: zs => by
    unfold zip3D
    rw [List.length_cons, List.length_cons, List.length_cons, List.length_cons, zip3D_len xs ys zs]; omega
theorem zip3D_get : ∀ (xs ys zs : List D) (i : Nat) (x y z : D), xs[i]? = some x → ys[i]? = some y → zs[i]? = some z → (zip3D xs ys zs)[i]? = some (.tup [x, y, z])
  | [], _, _, _, _, _, _, h, _, _ => by simp at h
  | _ :: _, [], _, _, _, _, _, _, h, _ => by simp at h
  | _ :: _, _ :: _, [], _, _, _, _, _, _, h => by simp at h
  | a :: xs, b :: ys, c :: zs, 0, x, y, z, h, h2, h3 => by simp at h h2 h3; subst h h2 h3; rfl
  | a :: xs, b :: ys, c :: zs, i + 1, x, y, z, h, h2, h3 => by
    unfold zip3D
    rw [List.getElem?_cons_succ] at h h2 h3 ⊢
    exact zip3D_get xs ys zs i x y z h h2 h3
theorem it_zipG3 {K : PySem.W.Frag} {F : Hp} {xs ys zs : List V} {ds es fs : List D} {J : It} {G : Hp → Prop} (r1 : Reps K F xs ds) (r2 : Reps K F ys es) (r3 : Reps K F zs fs) (w : Walk J (zip3D ds es fs).length G (YTrip (fun i => xs[i]?) (fun i => ys[i]?) (fun i => zs[i]?))) (g : ∀ H, Same F H → G H) : IterOk K F (zip3D ds es fs) J :=
  ⟨G, _, w, g, fun i H F2 x H' hi s s2 y => by
    obtain ⟨T, u, v, t, rfl, hT, rfl, h1, h2, h3⟩ := y
    obtain ⟨d, hd, rd⟩ := r1.get h1
    obtain ⟨e, he, re⟩ := r2.get h2
    obtain ⟨f, hf, rf⟩ := r3.get h3
    have g := Grow.new (o := HO.tup [u, v, t]) s2 hT
    have s3 := s.trans g.ff
    exact ⟨_, _, g, zip3D_get _ _ _ _ _ _ _ hd he hf, .tup (SqT.of upd_same) (.cons (rd.mono s3) (.cons (re.mono s3) (.cons (rf.mono s3) .nil)))⟩⟩
section
variable {X : Cx}
theorem i_zip {tg : Expr} {ma mb : ME} {e : Expr} (h : PI X tg e (iZipK X.K (tCons (rd X.K ma) (tCons (rd X.K mb) tNil)))) : PI X tg e (rdI X.K fun ρ C P => ma ρ C fun x ρ1 C1 => mb ρ1 C1 fun y ρ2 C2 => ∃ xs ys, sqD x = some xs ∧ sqD y = some ys ∧ P (zipD xs ys) ρ2 C2) := pi_weak h fun σ H R ⟨B, F, ρ, C, P, Rl, m, k⟩ =>
  ⟨B, F, ρ, C, _, Rl, m, fun x ρ1 C1 F1 v1 H1 s1 R1 r1 q1 => ⟨B, F1, ρ1, C1, _, R1, q1, fun y ρ2 C2 F2 v2 H2 s2 R2 r2 q2 => by
    obtain ⟨xs, ys, e1, e2, q2⟩ := q2
    obtain ⟨t1, a, vs, rfl, ha, ra⟩ := sqD_inv (r1.mono s2) e1
    obtain ⟨t2, b, ws, rfl, hb, rb⟩ := sqD_inv r2 e2
    refine ⟨t1, t2, a, b, vs, ws, rfl, seqK_same R2.ce.fh ha, seqK_same R2.ce.fh hb, k _ ρ2 C2 F2 _ H2 (s1.trans s2) R2 (it_zipG ra rb (walk_zipK ?_) fun H s => ⟨seqK_same s ha, seqK_same s hb⟩) q2⟩
    rw [zipD_len, ra.length, rb.length]⟩⟩
theorem i_zip3 {tg : Expr} {ma mb mc : ME} {e : Expr} (h : PI X tg e (iZipK3 X.K (tCons (rd X.K ma) (tCons (rd X.K mb) (tCons (rd X.K mc) tNil))))) : PI X tg e (rdI X.K fun ρ C P => ma ρ C fun x ρ1 C1 => mb ρ1 C1 fun y ρ2 C2 => mc ρ2 C2 fun z ρ3 C3 => ∃ xs ys zs, sqD x = some xs ∧ sqD y = some ys ∧ sqD z = some zs ∧ P (zip3D xs ys zs) ρ3 C3) := pi_weak h fun σ H R ⟨B, F, ρ, C, P, Rl, m, k⟩ =>
  ⟨B, F, ρ, C, _, Rl, m, fun x ρ1 C1 F1 v1 H1 s1 R1 r1 q1 => ⟨B, F1, ρ1, C1, _, R1, q1, fun y ρ2 C2 F2 v2 H2 s2 R2 r2 q2 => ⟨B, F2, ρ2, C2, _, R2, q2, fun z ρ3 C3 F3 v3 H3 s3 R3 r3 q3 => by
    obtain ⟨xs, ys, zs, e1, e2, e3, q3⟩ := q3
    obtain ⟨t1, a, vs, rfl, ha, ra⟩ := sqD_inv (r1.mono (s2.trans s3)) e1
    obtain ⟨t2, b, ws, rfl, hb, rb⟩ := sqD_inv (r2.mono s3) e2
    obtain ⟨t3, d, us, rfl, hd, rd⟩ := sqD_inv r3 e3
    refine ⟨t1, t2, t3, a, b, d, vs, ws, us, rfl, seqK_same R3.ce.fh ha, seqK_same R3.ce.fh hb, seqK_same R3.ce.fh hd, k _ ρ3 C3 F3 _ H3 (s1.trans (s2.trans s3)) R3 (it_zipG3 ra rb rd (walk_zipK3 ?_) fun H s => ⟨seqK_same s ha, seqK_same s hb, seqK_same s hd⟩) q3⟩
    rw [zip3D_len, ra.length, rb.length, rd.length]⟩⟩⟩
end
/-! chains of three -/
def tChain3 (r r' r'' : R2) (ta tb tc td : TE) : TE := fun σ H Q => ta σ H fun x H1 => tb σ H1 fun y H2 => r x y H2 fun z H3 => ∃ k, z = .bl k ∧
  (if k = true then tc σ H3 fun w' H4 => r' y w' H4 fun z' H5 => ∃ k', z' = .bl k' ∧ (if k' = true then td σ H5 fun u' H6 => r'' w' u' H6 Q else Q (.bl false) H5) else Q (.bl false) H3)
section
variable {X : Cx} {a b d f : Expr} {pos : Pos}
theorem pe_chain3 {op op' op'' : CmpOp} {r r' r'' : R2} {ta tb tc td : TE} (ho : OpR X (compareOp op) r) (ho' : OpR X (compareOp op') r') (ho'' : OpR X (compareOp op'') r'') (ha : PE X a ta) (hb : PE X b tb) (hc : PE X d tc) (hd : PE X f td)
    (hm : lastMarks [op, op', op''] [b, d, f] = false) : PE X (.Compare a [op, op', op''] [b, d, f] pos) (tChain3 r r' r'' ta tb tc td) := by
  refine ⟨fun pins s σ H Q I h => ?_⟩
  refine Compare_chain (thn (ha.run pins s σ H _ I h) fun v s1 ⟨x, H1, I1, r1, q1⟩ => chain_link (thn (hb.run pins s1 σ H1 _ I1 q1) fun u s2 ⟨y, H2, I2, r2, q2⟩ =>
    thn (ho pins s2 σ H2 x y v u _ I2 r1 r2 q2) fun d s3 ⟨z, H3, I3, r3, k, e, q3⟩ => ?_)) hm
  subst e
  cases r3
  refine wpAny_truthy_bool ?_
  cases k with
  | false => exact ite_ff ⟨.bl false, H3, I3, rfl, q3⟩
  | true =>
    refine ite_tt (chain_link (thn (hc.run pins s3 σ H3 _ I3 q3) fun w' s4 ⟨z', H4, I4, r4, q4⟩ => thn (ho' pins s4 σ H4 y z' u w' _ I4 r2 r4 q4) fun d5 s5 ⟨z5, H5, I5, r5, k5, e5, q5⟩ => ?_))
    subst e5
    cases r5
    refine wpAny_truthy_bool ?_
    cases k5 with
    | false => exact ite_ff ⟨.bl false, H5, I5, rfl, q5⟩
    | true => exact ite_tt (chain_last (thn (hd.run pins s5 σ H5 _ I5 q5) fun w6 s6 ⟨z6, H6, I6, r6, q6⟩ => ho'' pins s6 σ H6 z' z6 w' w6 Q I6 r4 r6 q6))
theorem e_chn3 {r r' r'' : D → D → (Bool → Prop) → Prop} {ma mb mc md : ME} {e : Expr} (h : PE X e (tChain3 (lift2 X.K fun d e P => r d e fun b => P (.bl b)) (lift2 X.K fun d e P => r' d e fun b => P (.bl b)) (lift2 X.K fun d e P => r'' d e fun b => P (.bl b)) (rd X.K ma) (rd X.K mb) (rd X.K mc) (rd X.K md))) :
    PE X e (rd X.K fun ρ C P => ma ρ C fun x ρ1 C1 => mb ρ1 C1 fun y ρ2 C2 => r x y fun k => if k = true then mc ρ2 C2 fun z ρ3 C3 => r' y z fun k' => if k' = true then md ρ3 C3 fun u ρ4 C4 => r'' z u fun k'' => P (.bl k'') ρ4 C4 else P (.bl false) ρ3 C3 else P (.bl false) ρ2 C2) :=
  pe_weak h fun σ H Q ⟨B, F, ρ, C, P, R, m, k⟩ =>
  ⟨B, F, ρ, C, _, R, m, fun x ρ1 C1 F1 v1 H1 s1 R1 r1 q1 => ⟨B, F1, ρ1, C1, _, R1, q1, fun y ρ2 C2 F2 v2 H2 s2 R2 r2 q2 =>
    ⟨F2, x, y, blP fun k => if k = true then mc ρ2 C2 fun z ρ3 C3 => r' y z fun k' => if k' = true then md ρ3 C3 fun u ρ4 C4 => r'' z u fun k'' => P (.bl k'') ρ4 C4 else P (.bl false) ρ3 C3 else P (.bl false) ρ2 C2, R2.ce.fh, r1.mono s2, r2, q2, fun d F3 v3 H3 g r3 p3 => by
      obtain ⟨b, rfl, rfl, p3⟩ := blP_inv r3 p3
      refine ⟨b, rfl, ?_⟩
      cases b with
      | false => exact k _ ρ2 C2 F3 _ H3 (s1.trans (s2.trans g.ff)) (R2.grow g) (.bl _) p3
      | true => exact ⟨B, F3, ρ2, C2, _, R2.grow g, p3, fun z ρ3 C3 F4 v4 H4 s4 R4 r4 q4 => ⟨F4, y, z, blP fun k' => if k' = true then md ρ3 C3 fun u ρ4 C4 => r'' z u fun k'' => P (.bl k'') ρ4 C4 else P (.bl false) ρ3 C3, R4.ce.fh, (r2.mono g.ff).mono s4, r4, q4, fun d F5 v5 H5 g5 r5 p5 => by
          obtain ⟨b, rfl, rfl, p5⟩ := blP_inv r5 p5
          refine ⟨b, rfl, ?_⟩
          cases b with
          | false => exact k _ ρ3 C3 F5 _ H5 (s1.trans (s2.trans (g.ff.trans (s4.trans g5.ff)))) (R4.grow g5) (.bl _) p5
          | true => exact ⟨B, F5, ρ3, C3, _, R4.grow g5, p5, fun u ρ6 C6 F6 v6 H6 s6 R6 r6 q6 => ⟨F6, z, u, blP fun k'' => P (.bl k'') ρ6 C6, R6.ce.fh, (r4.mono g5.ff).mono s6, r6, q6, fun d F7 v7 H7 g7 r7 p7 => by
              obtain ⟨b, rfl, rfl, p7⟩ := blP_inv r7 p7
              exact k _ ρ6 C6 F7 _ H7 (s1.trans (s2.trans (g.ff.trans (s4.trans (g5.ff.trans (s6.trans g7.ff)))))) (R6.grow g7) (.bl _) p7⟩⟩⟩⟩⟩⟩⟩
/-! a display of texts, asked at once -/
def dlkT (kvs : List (String × String)) : List (TE × TE) := kvs.map fun p => (tC (.str (Str.ofString p.1)), tC (.str (Str.ofString p.2)))
theorem tPairs_const : ∀ (kvs : List (String × String)) (σ : L2.St) (H : Hp) (Q : List (V × V) → Hp → Prop), Q (kvs.map fun p => (V.str (Str.ofString p.1), V.str (Str.ofString p.2))) H → tPairs (dlkT kvs) σ H Q
  | [], _, _, _, q => q
  | p :: kvs, σ, H, Q, q => tPairs_const kvs σ H _ q
theorem upd_upd {H : Hp} {p : Addr} {o o' : HO} : upd (upd H p o) p o' = upd H p o' := by
  funext a
  by_cases q : a = p
  · subst q; rw [upd_same, upd_same]
  · rw [upd_ne q, upd_ne q, upd_ne q]
theorem e_dlk {kvs : List (String × String)} {ma : ME} {e : Expr} (hl : kvs.length ≤ 15) (h : PE X e (tDGet (tDisp (dlkT kvs)) (rd X.K ma))) :
    PE X e (rd X.K fun ρ C P => ma ρ C fun x ρ1 C1 => match x with | .str s => ∃ y, dlkAt kvs s = some (.str y) ∧ P (.str y) ρ1 C1 | _ => False) := pe_weak h fun σ H Q ⟨B, F, ρ, C, P, R, m, k⟩ => by
  intro p hp
  refine tPairs_const kvs σ _ _ ⟨upd_same, kvs.map (fun q => (Sum.inr (Str.ofString q.1), V.str (Str.ofString q.2))), ?_, by rw [List.length_map]; exact hl, ?_⟩
  · rw [List.map_map]; rfl
  · rw [upd_upd]
    have g := Grow.new (o := HO.dK (mergeK [] (kvs.map (fun q => (Sum.inr (Str.ofString q.1), V.str (Str.ofString q.2)))))) R.ce.fh hp
    refine ⟨B, _, ρ, C, _, R.grow g, m, fun x ρ1 C1 F1 v1 H1 s1 R1 r1 q1 => ?_⟩
    try dsimp only at q1
    split at q1
    · rename_i s
      obtain ⟨y, e1, q1⟩ := q1
      cases r1
      refine ⟨p, .str y, rfl, .inl ⟨_, Sum.inr s, .inl (R1.ce.fh _ _ (s1 _ _ upd_same)), rfl, ?_⟩, k _ ρ1 C1 F1 _ H1 (g.ff.trans s1) R1 (.str _) q1⟩
      exact e1.symm
    · exact q1.elim
end
end M61

set_option Elab.async false
set_option linter.all false
set_option autoImplicit false
set_option maxRecDepth 100000
/-! M4h: dicts of written text keys, kept in cells. -/
namespace M61
open PySem PySem.Spec PyProof.Rows L2
/-! ### p is let go of -/
def wo (F : Hp) (p : Addr) : Hp := fun b => if b = p then none else F b
theorem wo_ne {F : Hp} {p b : Addr} (h : b ≠ p) : wo F p b = F b := if_neg h
theorem wo_self {F : Hp} {p : Addr} : wo F p p = none := if_pos rfl
theorem wo_some {F : Hp} {p b : Addr} {o : HO} (h : wo F p b = some o) : b ≠ p ∧ F b = some o := by
  by_cases q : b = p
  · rw [q, wo_self] at h; cases h
  · rw [wo_ne q] at h; exact ⟨q, h⟩
theorem wo_none {F : Hp} {p b : Addr} (h : F b = none) : wo F p b = none := by
  by_cases q : b = p
  · rw [q]; exact wo_self
  · rw [wo_ne q]; exact h
section
variable {K : PySem.W.Frag} {F : Hp} {p : Addr}
theorem rd_wo {u : HO} {a : Addr} (hp : F p = some (HO.dK [])) (hu : ∀ kvs, u ≠ HO.dK kvs) (h : L2.Rd F a u) : L2.Rd (wo F p) a u := by
  rcases h with h | ⟨o, h⟩
  · refine .inl ?_
    rw [wo_ne]
    · exact h
    · intro e; rw [e, hp] at h; exact hu _ (Option.some.inj h).symm
  · refine .inr ⟨o, ?_⟩
    rw [wo_ne]
    · exact h
    · intro e; rw [e, hp] at h; cases h
theorem sqT_wo {a : Addr} {xs : List V} (hp : F p = some (HO.dK [])) (h : SqT K F a xs) : SqT K (wo F p) a xs := h.imp (rd_wo hp (fun _ e => by cases e)) id
theorem sqL_wo {a : Addr} {xs : List V} (hp : F p = some (HO.dK [])) (h : SqL K F a xs) : SqL K (wo F p) a xs := h.imp (rd_wo hp (fun _ e => by cases e)) id
mutual
theorem Rep.wo (hp : F p = some (HO.dK [])) : ∀ {v : V} {d : D}, Rep K F v d → Rep K (M61.wo F p) v d
  | _, _, .non => .non
  | _, _, .bl b => .bl b
  | _, _, .int i => .int i
  | _, _, .str x => .str x
  | _, _, .tup h r => .tup (sqT_wo hp h) (Reps.wo hp r)
  | _, _, .lst (a := a) h r => .lst (by
      rw [wo_ne]
      · exact h
      · intro e; rw [e, hp] at h; cases h) (Reps.wo hp r)
  | _, _, .scr h r => .scr (sqL_wo hp h) (Reps.wo hp r)
  | _, _, .ref a => .ref a
  | _, _, .dic (u := u) h d => .dic (by
      rw [wo_ne]
      · exact h
      · intro e; rw [e, hp] at h; cases h; exact absurd rfl d) d
theorem Reps.wo (hp : F p = some (HO.dK [])) : ∀ {vs : List V} {ds : List D}, Reps K F vs ds → Reps K (M61.wo F p) vs ds
  | _, _, .nil => .nil
  | _, _, .cons r t => .cons (Rep.wo hp r) (Reps.wo hp t)
end
theorem RepKV.wo (hp : F p = some (HO.dK [])) : ∀ {vs ds}, RepKV K F vs ds → RepKV K (M61.wo F p) vs ds
  | _, _, .nil => .nil
  | _, _, .cons r t => .cons (r.wo hp) (RepKV.wo hp t)
end
/-- a frozen empty dict becomes a cell -/
theorem Rel.dctCell {K : PySem.W.Frag} {B : Base} {F H : Hp} {σ : L2.St} {ρ : Rho} {C : CM} {p : Addr} {kvs : List (L2.Key × V)} {ds : List (L2.Key × D)} (R : Rel K B F σ H ρ C) (hp : F p = some (HO.dK [])) (hB : B.H p = none) (hF : B.F p = none) (rk : RepKV K F kvs ds) :
    Rel K B (wo F p) σ (upd H p (.dK kvs)) ρ (fun b => if b = p then some (.dct ds) else C b) ∧ C p = none := by
  have hC : C p = none := by
    cases e : C p with
    | none => rfl
    | some c => obtain ⟨_, n⟩ := R.ce.cel p c e; rw [hp] at n; cases n
  have hH := R.ce.fh _ _ hp
  refine ⟨⟨R.len, ⟨fun b o q => ?_, fun b c q => ?_⟩, ⟨fun b o q => ?_, fun b o q => ?_, fun b o q q2 => ?_, fun b c q => ?_, fun b o q => ?_⟩, fun i d q => ?_, fun i xs q => ?_, R.dis⟩, hC⟩
  · obtain ⟨n, q⟩ := wo_some q
    rw [upd_ne n]; exact R.ce.fh b o q
  · by_cases e : b = p
    · subst e
      rw [if_pos rfl] at q
      cases q
      exact ⟨⟨kvs, upd_same, rk.wo hp⟩, wo_self⟩
    · rw [if_neg e] at q
      obtain ⟨r, n⟩ := R.ce.cel b c q
      refine ⟨?_, wo_none n⟩
      cases c with
      | lst xs => obtain ⟨vs, h1, h2⟩ := r; exact ⟨vs, by rw [upd_ne e]; exact h1, h2.wo hp⟩
      | dct xs => obtain ⟨vs, h1, h2⟩ := r; exact ⟨vs, by rw [upd_ne e]; exact h1, h2.wo hp⟩
  · rw [wo_ne]
    · exact R.fr.ff b o q
    · intro e; rw [e, hF] at q; cases q
  · obtain ⟨n, q⟩ := wo_some q
    exact R.fr.fnew b o q
  · rw [upd_ne]
    · exact R.fr.frame b o q q2
    · intro e; rw [e, hB] at q; cases q
  · by_cases e : b = p
    · subst e; exact .inr hB
    · exact R.fr.cnew b c (by have : (if b = p then some (Cell.dct ds) else C b) = some c := q; rwa [if_neg e] at this)
  · by_cases e : b = p
    · subst e; exact ⟨_, upd_same⟩
    · rw [upd_ne e]; exact R.fr.stay b o q
  · obtain ⟨v, h1, h2⟩ := R.dat i d q
    exact ⟨v, h1, h2.wo hp⟩
  · obtain ⟨a, vs, h1, h2, h3, n1, n2, n3⟩ := R.own i xs q
    have e : a ≠ p := fun e => by rw [e, hp] at n1; cases n1
    exact ⟨a, vs, h1, by rw [upd_ne e]; exact h2, h3.wo hp, wo_none n1, by show (if a = p then _ else C a) = none; rw [if_neg e]; exact n2, n3⟩
/-! ### displays -/
def chainM : List ME → ML
  | [], ρ, C, P => P [] ρ C
  | m :: ms, ρ, C, P => m ρ C fun x ρ1 C1 => chainM ms ρ1 C1 fun xs ρ2 C2 => P (x :: xs) ρ2 C2
def pairsT (K : PySem.W.Frag) : List String → List ME → List (TE × TE)
  | k :: ks, m :: ms => (tC (.str (Str.ofString k)), rd K m) :: pairsT K ks ms
  | _, _ => []
theorem keyed_len {α : Type} : ∀ (ks : List String) (xs : List α), (keyed ks xs).length ≤ ks.length
  | [], _ => Nat.zero_le _
  | _ :: _, [] => Nat.zero_le _
  | k :: ks, x :: xs => Nat.succ_le_succ (keyed_len ks xs)
theorem keyed_rep {K : PySem.W.Frag} {F : Hp} : ∀ (ks : List String) {vs : List V} {ds : List D}, Reps K F vs ds → RepKV K F (keyed ks vs) (keyed ks ds)
  | [], _, _, _ => .nil
  | _ :: _, _, _, .nil => .nil
  | _ :: ks, _, _, .cons r t => .cons r (keyed_rep ks t)
theorem tPairs_rd {K : PySem.W.Frag} : ∀ (ks : List String) (ms : List ME), ks.length = ms.length → ∀ {B : Base} {F : Hp} {ρ : Rho} {C : CM} {σ : L2.St} {H : Hp} {P : List D → Rho → CM → Prop} {Q : List (V × V) → Hp → Prop}, Rel K B F σ H ρ C → chainM ms ρ C P →
    (∀ ds ρ1 C1 F1 vs H1, Same F F1 → Rel K B F1 σ H1 ρ1 C1 → Reps K F1 vs ds → P ds ρ1 C1 → Q ((keyed ks vs).map fun kv => (kV kv.1, kv.2)) H1) → tPairs (pairsT K ks ms) σ H Q
  | [], [], _, B, F, ρ, C, σ, H, P, Q, R, m, k => k [] ρ C F [] H (Same.refl _) R .nil m
  | k0 :: ks, m0 :: ms, e, B, F, ρ, C, σ, H, P, Q, R, m, k => by
    refine ⟨B, F, ρ, C, _, R, m, fun d ρ1 C1 F1 v H1 s1 R1 r1 q1 => ?_⟩
    refine tPairs_rd ks ms (Nat.succ.inj e) R1 q1 fun ds ρ2 C2 F2 vs H2 s2 R2 r2 q2 => ?_
    exact k (d :: ds) ρ2 C2 F2 (v :: vs) H2 (s1.trans s2) R2 (.cons (r1.mono s2) r2) q2
theorem merge_nodup : ∀ (more kvs : List (L2.Key × V)), ((kvs ++ more).map (·.1)).Nodup → mergeK kvs more = kvs ++ more
  | [], kvs, _ => by rw [List.append_nil]; rfl
  | kv :: more, kvs, h => by
    show mergeK (putK kvs kv.1 kv.2) more = _
    have hn : (kvs.any fun p => decide (p.1 = kv.1)) = false := by
      rw [List.any_eq_false]
      intro p hp
      rw [decide_eq_true_eq]
      intro e
      rw [List.map_append, List.map_cons, List.nodup_append] at h
      exact h.2.2 p.1 (List.mem_map.mpr ⟨p, hp, rfl⟩) kv.1 List.mem_cons_self e
    have e : putK kvs kv.1 kv.2 = kvs ++ [kv] := by unfold putK; rw [hn]; rfl
    rw [e, merge_nodup more (kvs ++ [kv]) (by rw [List.append_assoc]; exact h), List.append_assoc]; rfl
theorem keyed_keys {α β : Type} : ∀ (ks : List String) (xs : List α) (ys : List β), xs.length = ys.length → (keyed ks xs).map (·.1) = (keyed ks ys).map (·.1)
  | [], _, _, _ => rfl
  | _ :: _, [], [], _ => rfl
  | _ :: ks, _ :: xs, _ :: ys, h => by
    show _ :: (keyed ks xs).map (·.1) = _ :: (keyed ks ys).map (·.1)
    rw [keyed_keys ks xs ys (Nat.succ.inj h)]
section
variable {X : Cx}
theorem e_celd {ks : List String} {ms : List ME} {e : Expr} (hl : ks.length ≤ 15) (hm : ks.length = ms.length) (h : PE X e (tDisp (pairsT X.K ks ms))) :
    PE X e (rd X.K fun ρ C P => chainM ms ρ C fun ds ρ1 C1 => ((keyed ks ds).map (·.1)).Nodup ∧ ∀ a, C1 a = none → P (.ref a) ρ1 (fun b => if b = a then some (.dct (keyed ks ds)) else C1 b)) := pe_weak h fun σ H Q ⟨B, F, ρ, C, P, R, m, k⟩ => by
  intro p hp
  have g := Grow.new (o := HO.dK []) R.ce.fh hp
  have hB := R.base_none hp
  have hF : B.F p = none := by
    cases e : B.F p with
    | none => rfl
    | some o => have := R.ce.fh _ _ (R.fr.ff _ _ e); rw [hp] at this; cases this
  refine tPairs_rd ks ms hm (R.grow g) m fun ds ρ1 C1 F1 vs H1 s1 R1 r1 ⟨nd, q⟩ => ?_
  have hp1 := s1 _ _ (upd_same (H := F) (a := p) (o := HO.dK []))
  refine ⟨R1.ce.fh _ _ hp1, keyed ks vs, rfl, Nat.le_trans (keyed_len ks vs) hl, ?_⟩
  rw [merge_nodup (keyed ks vs) [] (by rw [List.nil_append, keyed_keys ks vs ds r1.length]; exact nd), List.nil_append]
  obtain ⟨R2, hC⟩ := R1.dctCell hp1 hB hF (keyed_rep ks r1)
  refine k (.ref p) ρ1 _ (wo F1 p) (.ref p) _ (fun b o q => ?_) R2 (.ref p) (q p hC)
  rw [wo_ne]
  · exact s1 _ _ (g.ff _ _ q)
  · intro e
    rw [e] at q
    have := R.ce.fh _ _ q
    rw [hp] at this; cases this
theorem RepKV.at {K : PySem.W.Frag} {F : Hp} {k : L2.Key} {d : D} : ∀ {vs ds}, RepKV K F vs ds → dctAt ds k = some d → ∃ v, valV vs k = some v ∧ Rep K F v d
  | _, _, .nil, h => by cases h
  | _, _, .cons (k := k') (v := v) (d := d') (vs := vs) (ds := ds) r t, h => by
    by_cases e : k' = k
    · have : dctAt ((k', d') :: ds) k = some d' := by unfold dctAt; rw [List.find?_cons, decide_eq_true e]; rfl
      rw [this] at h
      cases h
      exact ⟨v, valV_pos e, r⟩
    · have : dctAt ((k', d') :: ds) k = dctAt ds k := by unfold dctAt; rw [List.find?_cons, decide_eq_false e]
      rw [this] at h
      obtain ⟨v', h1, h2⟩ := RepKV.at t h
      exact ⟨v', by rw [valV_neg e]; exact h1, h2⟩
theorem RepKV.any {K : PySem.W.Frag} {F : Hp} (k : L2.Key) : ∀ {vs ds}, RepKV K F vs ds → (vs.any fun kv => decide (kv.1 = k)) = (ds.any fun kv => decide (kv.1 = k))
  | _, _, .nil => rfl
  | _, _, .cons r t => by rw [List.any_cons, List.any_cons, RepKV.any k t]
theorem RepKV.map {K : PySem.W.Frag} {F : Hp} {k : L2.Key} {v : V} {d : D} (r0 : Rep K F v d) : ∀ {vs ds}, RepKV K F vs ds → RepKV K F (vs.map fun kv => if kv.1 = k then (kv.1, v) else kv) (ds.map fun kv => if kv.1 = k then (kv.1, d) else kv)
  | _, _, .nil => .nil
  | _, _, .cons (k := k') r t => by
    rw [List.map_cons, List.map_cons]
    by_cases e : k' = k
    · rw [if_pos e, if_pos e]; exact .cons r0 (RepKV.map r0 t)
    · rw [if_neg e, if_neg e]; exact .cons r (RepKV.map r0 t)
theorem RepKV.snoc {K : PySem.W.Frag} {F : Hp} {k : L2.Key} {v : V} {d : D} (r0 : Rep K F v d) : ∀ {vs ds}, RepKV K F vs ds → RepKV K F (vs ++ [(k, v)]) (ds ++ [(k, d)])
  | _, _, .nil => .cons r0 .nil
  | _, _, .cons r t => .cons r (RepKV.snoc r0 t)
theorem RepKV.put {K : PySem.W.Frag} {F : Hp} {k : L2.Key} {v : V} {d : D} (r0 : Rep K F v d) {vs ds} (r : RepKV K F vs ds) : RepKV K F (putK vs k v) (dctPut ds k d) := by
  unfold putK dctPut
  rw [r.any k]
  split
  · exact r.map r0
  · exact r.snoc r0
theorem RepKV.length {K : PySem.W.Frag} {F : Hp} : ∀ {vs ds}, RepKV K F vs ds → vs.length = ds.length
  | _, _, .nil => rfl
  | _, _, .cons _ t => congrArg (· + 1) (RepKV.length t)
theorem e_dix {k : String} {ma : ME} {e : Expr} (h : PE X e (tDGet (rd X.K ma) (tC (.str (Str.ofString k))))) :
    PE X e (rd X.K fun ρ C P => ma ρ C fun x ρ1 C1 => match x with | .ref p => ∃ kvs d, C1 p = some (.dct kvs) ∧ dctAt kvs (Sum.inr (Str.ofString k)) = some d ∧ P d ρ1 C1 | _ => False) := pe_weak h fun σ H Q ⟨B, F, ρ, C, P, R, m, kk⟩ => by
  refine ⟨B, F, ρ, C, _, R, m, fun x ρ1 C1 F1 v1 H1 s1 R1 r1 q1 => ?_⟩
  try dsimp only at q1
  split at q1
  · rename_i p
    obtain ⟨kvs, d, hc, hd, q1⟩ := q1
    cases r1
    obtain ⟨vs, hl, ra⟩ := (R1.ce.cel _ _ hc).1
    obtain ⟨v, e1, rv⟩ := ra.at hd
    have dg := DGet.k (k := Sum.inr (Str.ofString k)) hl
    rw [e1] at dg
    exact ⟨p, v, rfl, dg, kk d ρ1 C1 F1 v H1 s1 R1 rv q1⟩
  · exact q1.elim
theorem s_dset {k : String} {me mo : ME} {st : Stmt} (h : PS X st (tAsg (rd X.K me) (gSub (rd X.K mo) (tC (.str (Str.ofString k))) rSetD))) :
    PS X st (rdS X.K fun A ρ C => me ρ C fun d ρ1 C1 => mo ρ1 C1 fun x ρ2 C2 => match x with
    | .ref p => ∃ kvs, C2 p = some (.dct kvs) ∧ kvs.length < sizeLine ∧ A.nx ρ2 (fun b => if b = p then some (.dct (dctPut kvs (Sum.inr (Str.ofString k)) d)) else C2 b)
    | _ => False) := ps_weak h fun D σ H ⟨B, F, ρ, C, A, R, m, k1, _⟩ =>
  ⟨B, F, ρ, C, _, R, m, fun d ρ1 C1 F1 v1 H1 s1 R1 r1 q1 => ⟨B, F1, ρ1, C1, _, R1, q1, fun x ρ2 C2 F2 v2 H2 s2 R2 r2 q2 => by
    try dsimp only at q2
    split at q2
    · rename_i p
      cases r2
      obtain ⟨kvs, hc, hn, q2⟩ := q2
      obtain ⟨vs, hl, ra⟩ := (R2.ce.cel _ _ hc).1
      exact ⟨p, _, rfl, DPut.k (k := Sum.inr (Str.ofString k)) hl (by rw [ra.length]; exact hn), k1 _ _ F2 σ _ (s1.trans s2) (R2.mutCell (c' := .dct (dctPut kvs (Sum.inr (Str.ofString k)) d)) hc ⟨_, upd_same, ra.put (r1.mono s2)⟩) q2⟩
    · exact q2.elim⟩⟩
/-- {} -/
theorem e_edic {e : Expr} (h : PE X e (fun σ H Q => ∀ p, H p = none → Q (.ref p) (upd H p (.dT [])))) : PE X e (rd X.K fun ρ C P => P .dic ρ C) := pe_weak h fun σ H Q ⟨B, F, ρ, C, P, R, m, k⟩ => fun p hp => by
  have g := Grow.new (o := HO.dT []) R.ce.fh hp
  exact k .dic ρ C _ (.ref p) _ g.ff (R.grow g) (.dic upd_same trivial) m
/-- a frozen empty dict is filled -/
theorem Rel.dicF {K : PySem.W.Frag} {B : Base} {F H : Hp} {σ : L2.St} {ρ : Rho} {C : CM} {p : Addr} {kvs : List (L2.Key × V)} (R : Rel K B F σ H ρ C) (hp : F p = some (HO.dK [])) (hB : B.H p = none) (hF : B.F p = none) :
    Rel K B (upd F p (.dK kvs)) σ (upd H p (.dK kvs)) ρ C := by
  have hs : Same (M61.wo F p) (upd F p (.dK kvs)) := fun b o q => by
    obtain ⟨n, q⟩ := wo_some q
    rw [upd_ne n]; exact q
  have ne : ∀ {b : Addr}, F b = none → b ≠ p := fun q e => by rw [e, hp] at q; cases q
  refine ⟨R.len, ⟨fun b o q => ?_, fun b c q => ?_⟩, ⟨fun b o q => ?_, fun b o q => ?_, fun b o q q2 => ?_, fun b c q => R.fr.cnew b c q, fun b o q => ?_⟩, fun i d q => ?_, fun i xs q => ?_, R.dis⟩
  · by_cases e : b = p
    · subst e; rw [upd_same] at q ⊢; exact q
    · rw [upd_ne e] at q ⊢; exact R.ce.fh b o q
  · obtain ⟨r, n⟩ := R.ce.cel b c q
    have e := ne n
    refine ⟨?_, by rw [upd_ne e]; exact n⟩
    cases c with
    | lst xs => obtain ⟨vs, h1, h2⟩ := r; exact ⟨vs, by rw [upd_ne e]; exact h1, (h2.wo hp).mono hs⟩
    | dct xs => obtain ⟨vs, h1, h2⟩ := r; exact ⟨vs, by rw [upd_ne e]; exact h1, (h2.wo hp).mono hs⟩
  · rw [upd_ne]
    · exact R.fr.ff b o q
    · intro e; rw [e, hF] at q; cases q
  · by_cases e : b = p
    · subst e; exact .inr hB
    · rw [upd_ne e] at q; exact R.fr.fnew b o q
  · rw [upd_ne]
    · exact R.fr.frame b o q q2
    · intro e; rw [e, hB] at q; cases q
  · by_cases e : b = p
    · subst e; exact ⟨_, upd_same⟩
    · rw [upd_ne e]; exact R.fr.stay b o q
  · obtain ⟨v, h1, h2⟩ := R.dat i d q
    exact ⟨v, h1, (h2.wo hp).mono hs⟩
  · obtain ⟨a, vs, h1, h2, h3, n1, n2, n3⟩ := R.own i xs q
    have e := ne n1
    exact ⟨a, vs, h1, by rw [upd_ne e]; exact h2, (h3.wo hp).mono hs, by rw [upd_ne e]; exact n1, n2, n3⟩
/-- {k: x}, k written -/
theorem e_ndic {k : L2.Key} {ma : ME} {e : Expr} (h : PE X e (tDisp [(tC (kV k), rd X.K ma)])) : PE X e (rd X.K fun ρ C P => ma ρ C fun _ ρ1 C1 => P .dic ρ1 C1) := pe_weak h fun σ H Q ⟨B, F, ρ, C, P, R, m, kk⟩ => by
  intro p hp
  have g := Grow.new (o := HO.dK []) R.ce.fh hp
  have hB := R.base_none hp
  have hF : B.F p = none := by
    cases e : B.F p with
    | none => rfl
    | some o => have := R.ce.fh _ _ (R.fr.ff _ _ e); rw [hp] at this; cases this
  refine ⟨B, _, ρ, C, _, R.grow g, m, fun d ρ1 C1 F1 v H1 s1 R1 r1 q1 => ?_⟩
  have hp1 := s1 _ _ (upd_same (H := F) (a := p) (o := HO.dK []))
  refine ⟨R1.ce.fh _ _ hp1, [(k, v)], rfl, by show 1 ≤ 15; decide, ?_⟩
  have e1 : mergeK [] [(k, v)] = [(k, v)] := rfl
  rw [e1]
  have R2 := R1.dicF (kvs := [(k, v)]) hp1 hB hF
  refine kk .dic ρ1 C1 _ (.ref p) _ (fun b o q => ?_) R2 (.dic upd_same (by intro z; cases z)) q1
  rw [upd_ne]
  · exact s1 _ _ (g.ff _ _ q)
  · intro e
    rw [e] at q
    have := R.ce.fh _ _ q
    rw [hp] at this; cases this
end
end M61

set_option Elab.async false
set_option linter.all false
set_option autoImplicit false
set_option maxRecDepth 100000
/-! M4i: a list from behind, its last one left out. -/
namespace M61
open PySem PySem.Spec PyProof.Rows L2
theorem bounds_2 (n : Nat) (h : 1 ≤ n) : sliceBounds (some (-2)) none (some (-1)) n = (((n - 1 : Nat) : Int) - 1, -1, -1) := by
  have e : sliceBounds (some (-2)) none (some (-1)) n = (max (-1) (min ((-2 : Int) + n) ((n : Int) - 1)), -1, -1) := by
    simp [sliceBounds]
  rw [e]
  congr 1
  omega
theorem filter_none {α : Type} (xs : Array α) (f : Nat → Option α) (l : List Nat) (h : ∀ k ∈ l, f k = xs[k]?) : l.filterMap f = l.filterMap (xs[·]?) := by
  induction l with
  | nil => rfl
  | cons k l ih =>
    rw [List.filterMap_cons, List.filterMap_cons, h k List.mem_cons_self, ih fun j hj => h j (List.mem_cons_of_mem _ hj)]
theorem pick_2 (items : Array Value) : slicePick items (some (-2)) none (some (-1)) = ((items.toList.take (items.size - 1)).reverse).toArray := by
  by_cases h : 1 ≤ items.size
  · unfold slicePick
    rw [bounds_2 _ h]
    show ((sliceRange (((items.size - 1 : Nat) : Int) - 1) (-1) (-1)).filterMap (items[·]?)).toArray = _
    rw [PySem.W.krv_sliceRange, PySem.W.krv_range, List.filterMap_reverse]
    congr 2
    have e := PySem.W.krv_all (items.extract 0 (items.size - 1))
    have hs : (items.extract 0 (items.size - 1)).size = items.size - 1 := by rw [Array.size_extract]; omega
    rw [hs] at e
    rw [← filter_none items ((items.extract 0 (items.size - 1))[·]?) (List.range (items.size - 1)) (fun k hk => ?_), e]
    · rw [Array.toList_extract]
      simp [List.extract]
    · have hk := List.mem_range.mp hk
      show (items.extract 0 (items.size - 1))[k]? = items[k]?
      rw [Array.getElem?_eq_getElem (by omega), Array.getElem?_eq_getElem (by omega), Array.getElem_extract]
      simp
  · have hz : items = #[] := Array.eq_empty_of_size_eq_zero (by omega)
    subst hz
    rfl
/-- a value's list from behind, the last one left out -/
def tRev2 (K : PySem.W.Frag) (te : TE) : TE := fun σ H Q => te σ H fun x H1 => ∃ a xs, x = .ref a ∧ SqL K H1 a xs ∧ ∀ p, H1 p = none → Q (.ref p) (upd H1 p (.lst (xs.take (xs.length - 1)).reverse))
section
variable {X : Cx}
theorem neg_part {i : Int} {k : Nat} {p1 p2 : Pos} : PO X (some (.UnaryOp .USub (.Constant (.int i) k p1) p2)) (tPart (tUn (rU fun i => .int (-i)) (tC (.int i)))) := po_some (pe_un un_neg pe_int)
theorem pe_rev2 {e : Expr} {te : TE} {k k' : Nat} {p1 p2 p3 q1 q2 pos : Pos} (he : PE X e te) : PE X (.Subscript e (.Slice (some (.UnaryOp .USub (.Constant (.int 2) k' q1) q2)) none (some (.UnaryOp .USub (.Constant (.int 1) k p1) p2)) p3) pos) (tRev2 X.K te) := ⟨fun pins s σ H Q I h => by
  refine Subscript_ (thn (he.run pins s σ H _ I h) fun v s1 ⟨x, H1, I1, r1, a, xs, ex, hx, q⟩ => ?_)
  subst ex
  cases r1
  refine wpAny_Slice (thn (neg_part.run pins s1 σ H1 (fun o G => o = some (-2) ∧ G = H1) I1 ⟨2, rfl, -2, rfl, rfl, rfl⟩) fun vl s2 ⟨_, _, I2, pl, el, eh⟩ => ?_)
  cases el; cases eh
  refine thn (po_none.run pins s2 σ H1 (fun o G => o = none ∧ G = H1) I2 ⟨rfl, rfl⟩) fun vu s3 ⟨_, _, I3, pu, el, eh⟩ => ?_
  cases el; cases eh
  refine thn (neg_part.run pins s3 σ H1 (fun o G => o = some (-1) ∧ G = H1) I3 ⟨1, rfl, -1, rfl, rfl, rfl⟩) fun vs s4 ⟨_, _, I4, ps, el, eh⟩ => ?_
  cases el; cases eh
  have I5 : Inv X pins σ H1 { s4 with heap := s4.heap.push { cls := .type "slice", data := .fields #[vl, vu, vs] } } := I4.kept (t' := s4.toks) fun b ob q => Heap.get?_push_of_some _ q
  obtain ⟨its, r, ht, hz⟩ := I5.list hx
  have hlen := r.length
  refine tail_any (ops := [.ref a, .ref s4.heap.objs.size]) ht.isList.typeIs (PySem.slot_list_getitem.lookup) ?_ (by with_unfolding_all rfl)
  refine wpAny_getItem_list_slice ht.isList (Heap.IsSliceOf.new _ vl vu vs) pl pu ps (by decide) ?_ (by rw [List.size_toArray]; omega)
  rw [pick_2]
  have hr : Vals (xs.take (xs.length - 1)).reverse (its.take (its.length - 1)).reverse := by rw [← hlen]; exact (r.take _).reverse
  have I6 := I5.laid (a := (s4.heap.push { cls := .type "slice", data := .fields #[vl, vu, vs] }).objs.size) (t' := s4.toks) (o := .lst (xs.take (xs.length - 1)).reverse) (h' := _) (fun b ob q => Heap.get?_push_of_some (Obj.mk (.type "list") none (.seq ((its.toArray.toList.take (its.toArray.size - 1)).reverse).toArray 0) #[]) q) (Nat.le_refl _) ⟨by rw [List.length_reverse, List.length_take]; omega, _, 0, by
    simpa using hr, Heap.get?_push_size _ rfl⟩
  exact ⟨.ref _, _, I6, rfl, q _ (I5.hok.fresh (Nat.le_refl _))⟩⟩
theorem l_ls2 {ma : ME} {e : Expr} (h : PE X e (tRev2 X.K (rd X.K ma))) : PE X e (rdL X.K fun ρ C P => ma ρ C fun x ρ1 C1 => ∃ xs, lstD C1 x = some xs ∧ P (xs.take (xs.length - 1)).reverse ρ1 C1) := pe_weak h fun σ H Q ⟨B, F, ρ, C, P, R, m, k⟩ =>
  ⟨B, F, ρ, C, _, R, m, fun x ρ1 C1 F1 v1 H1 s1 R1 r1 ⟨xs, hx, q⟩ => by
    obtain ⟨a, vs, rfl, hl, ra⟩ := lstD_rel R1.ce r1 hx
    refine ⟨a, vs, rfl, .of hl, fun p hp => ?_⟩
    obtain ⟨R2, f1, f2, f3, f4⟩ := rel_fresh (vs := (vs.take (vs.length - 1)).reverse) R1 hp
    exact k _ ρ1 C1 F1 p _ _ s1 R2 upd_same (by rw [ra.length]; exact (ra.take _).reverse) f1 f2 f3 f4 q⟩
end
end M61

set_option Elab.async false
set_option linter.all false
set_option autoImplicit false
set_option maxRecDepth 100000
/-! M4j: a tuple of anything beside the empty one. -/
namespace M61
open PySem PySem.Spec PyProof.Rows L2
def rTpe (K : PySem.W.Frag) (f : Bool → Bool) : R2 := fun x y H Q => ∃ a b xs, x = V.ref a ∧ y = V.ref b ∧ SqT K H a xs ∧ SqT K H b [] ∧ Q (.bl (f xs.isEmpty)) H
section
variable {X : Cx}
theorem tup_two {pins : List (Addr × Obj)} {s : Shared} {σ : L2.St} {H : Hp} {a : Addr} {xs : List V} (I : Inv X pins σ H s) (h : SqT X.K H a xs) : ∃ its : List Value, s.heap.IsTuple a its.toArray ∧ (its.toArray.size == 0) = xs.isEmpty := by
  obtain ⟨its, rv, ht, _⟩ := I.tuple h
  refine ⟨its, ht, ?_⟩
  have := rv.length
  cases xs <;> cases its <;> simp at this ⊢
theorem op_tpe (hu : X.A.units < cLine) : OpR X (compareOp .Eq) (rTpe X.K id) := fun pins s σ H x y v u Q I rx ry ⟨a, b, xs, ex, ey, ha, hb, q⟩ => by
  subst ex ey
  cases rx; cases ry
  obtain ⟨i1, t1, z1⟩ := tup_two I ha
  obtain ⟨i2, t2, z2⟩ := tup_two I hb
  have e2 : i2.toArray.size = 0 := by simpa using z2
  refine SeqAt.RcAt.tuples (e := fun _ => true) t1 t2 hu (fun j h1 h2 => by omega) X.prog X.w _ _ ?_
  refine ⟨.bl xs.isEmpty, H, I, ?_, q⟩
  rw [e2, Nat.min_zero, z1]; rfl
theorem op_tpn (hu : X.A.units < cLine) : OpR X (compareOp .NotEq) (rTpe X.K (!·)) := fun pins s σ H x y v u Q I rx ry ⟨a, b, xs, ex, ey, ha, hb, q⟩ => by
  subst ex ey
  cases rx; cases ry
  obtain ⟨i1, t1, z1⟩ := tup_two I ha
  obtain ⟨i2, t2, z2⟩ := tup_two I hb
  have e2 : i2.toArray.size = 0 := by simpa using z2
  refine SeqAt.RcNeAt.tuples (e := fun _ => true) t1 t2 hu (fun j h1 h2 => by omega) X.prog X.w _ _ ?_
  refine ⟨.bl (!xs.isEmpty), H, I, ?_, q⟩
  rw [e2, Nat.min_zero, z1]; rfl
theorem t_tpe {f : Bool → Bool} {ma : ME} {e : Expr} (h : PT X e (tTest (tOp (rTpe X.K f) (rd X.K ma) (tTup tNil)))) :
    PT X e (rdT X.K fun ρ C P => ma ρ C fun x ρ1 C1 => match x with | .tup xs => P (f xs.isEmpty) ρ1 C1 | _ => False) := pt_weak h fun σ H Q ⟨B, F, ρ, C, P, R, m, k⟩ =>
  ⟨B, F, ρ, C, _, R, m, fun x ρ1 C1 F1 v1 H1 s1 R1 r1 q => by
    try dsimp only at q
    split at q
    · rename_i xs
      obtain ⟨a, vs, rfl, ha, ra⟩ := r1.tup_inv
      refine ⟨Nat.zero_le _, fun p hp => ?_⟩
      have g := Grow.new (o := HO.tup []) R1.ce.fh hp
      refine ⟨_, _, _, rfl, rfl, sqT_same (same_upd hp) (sqT_same R1.ce.fh ha), SqT.of upd_same, _, rfl, ?_⟩
      have e : vs.isEmpty = xs.isEmpty := (by have := ra.length; cases vs <;> cases xs <;> simp at this ⊢)
      rw [e]
      exact k _ ρ1 C1 _ _ (s1.trans g.ff) (R1.grow g) q
    · exact q.elim⟩
end
end M61

set_option Elab.async false
set_option linter.all false
set_option autoImplicit false
set_option maxRecDepth 100000
/-! M4k: a list of anything beside the empty one. -/
namespace M61
open PySem PySem.Spec PyProof.Rows L2
def rLse (K : PySem.W.Frag) (f : Bool → Bool) : R2 := fun x y H Q => ∃ a b xs, x = V.ref a ∧ y = V.ref b ∧ SqL K H a xs ∧ SqL K H b [] ∧ Q (.bl (f xs.isEmpty)) H
section
variable {X : Cx}
theorem lst_two {pins : List (Addr × Obj)} {s : Shared} {σ : L2.St} {H : Hp} {a : Addr} {xs : List V} (I : Inv X pins σ H s) (h : SqL X.K H a xs) : ∃ its : List Value, s.heap.IsList a its.toArray ∧ its.length = xs.length := by
  obtain ⟨its, rv, ht, _⟩ := I.list h
  exact ⟨its, ht.isList, rv.length.symm⟩
theorem op_lse (hu : X.A.units < cLine) : OpR X (compareOp .Eq) (rLse X.K id) := fun pins s σ H x y v u Q I rx ry ⟨a, b, xs, ex, ey, ha, hb, q⟩ => by
  subst ex ey
  cases rx; cases ry
  obtain ⟨i1, t1, z1⟩ := lst_two I ha
  obtain ⟨i2, t2, z2⟩ := lst_two I hb
  have e2 : i2.toArray.size = 0 := by simpa using z2
  cases xs with
  | nil =>
    have e1 : i1.toArray.size = 0 := by simpa using z1
    refine SeqAt.RcAt.lists (e := fun _ => true) t1 t2 (by rw [e1, e2]) hu (fun j h1 h2 => by omega) X.prog X.w _ _ ?_
    refine ⟨.bl true, H, I, ?_, q⟩
    rw [e1]; rfl
  | cons x r =>
    have e1 : i1.toArray.size = r.length + 1 := by simpa using z1
    refine SeqAt.RcAt.lists_lengths t1 t2 (by rw [e1, e2]; simp) hu X.prog X.w _ _ ?_
    exact ⟨.bl false, H, I, rfl, q⟩
theorem op_lsn (hu : X.A.units < cLine) : OpR X (compareOp .NotEq) (rLse X.K (!·)) := fun pins s σ H x y v u Q I rx ry ⟨a, b, xs, ex, ey, ha, hb, q⟩ => by
  subst ex ey
  cases rx; cases ry
  obtain ⟨i1, t1, z1⟩ := lst_two I ha
  obtain ⟨i2, t2, z2⟩ := lst_two I hb
  have e2 : i2.toArray.size = 0 := by simpa using z2
  cases xs with
  | nil =>
    have e1 : i1.toArray.size = 0 := by simpa using z1
    refine SeqAt.RcNeAt.lists (e := fun _ => true) t1 t2 (by rw [e1, e2]) hu (fun j h1 h2 => by omega) X.prog X.w _ _ ?_
    refine ⟨.bl false, H, I, ?_, q⟩
    rw [e1]; rfl
  | cons x r =>
    have e1 : i1.toArray.size = r.length + 1 := by simpa using z1
    refine SeqAt.RcNeAt.lists_lengths t1 t2 (by rw [e1, e2]; simp) hu X.prog X.w _ _ ?_
    exact ⟨.bl true, H, I, rfl, q⟩
theorem e_lse {f : Bool → Bool} {ma : ME} {e : Expr} (h : PE X e (tOp (rLse X.K f) (rd X.K ma) (tLst tNil))) :
    PE X e (rd X.K fun ρ C P => ma ρ C fun x ρ1 C1 => ∃ xs, lstD C1 x = some xs ∧ P (.bl (f xs.isEmpty)) ρ1 C1) := pe_weak h fun σ H Q ⟨B, F, ρ, C, P, R, m, k⟩ =>
  ⟨B, F, ρ, C, _, R, m, fun x ρ1 C1 F1 v1 H1 s1 R1 r1 ⟨xs, hx, q⟩ => by
    obtain ⟨a, vs, rfl, hl, ra⟩ := lstD_rel R1.ce r1 hx
    refine ⟨Nat.zero_le _, fun p hp => ?_⟩
    have hs := same_upd (o := HO.lst []) hp
    have R2 := (rel_fresh (vs := []) R1 hp).1
    refine ⟨_, _, _, rfl, rfl, .of (hs _ _ hl), .of upd_same, ?_⟩
    have e : vs.isEmpty = xs.isEmpty := (by have := ra.length; cases vs <;> cases xs <;> simp at this ⊢)
    rw [e]
    exact k _ ρ1 C1 F1 _ _ s1 R2 (.bl _) q⟩
theorem t_lse {f : Bool → Bool} {ma : ME} {e : Expr} (h : PT X e (tTest (tOp (rLse X.K f) (rd X.K ma) (tLst tNil)))) :
    PT X e (rdT X.K fun ρ C P => ma ρ C fun x ρ1 C1 => ∃ xs, lstD C1 x = some xs ∧ P (f xs.isEmpty) ρ1 C1) := pt_weak h fun σ H Q ⟨B, F, ρ, C, P, R, m, k⟩ =>
  ⟨B, F, ρ, C, _, R, m, fun x ρ1 C1 F1 v1 H1 s1 R1 r1 ⟨xs, hx, q⟩ => by
    obtain ⟨a, vs, rfl, hl, ra⟩ := lstD_rel R1.ce r1 hx
    refine ⟨Nat.zero_le _, fun p hp => ?_⟩
    have hs := same_upd (o := HO.lst []) hp
    have R2 := (rel_fresh (vs := []) R1 hp).1
    refine ⟨_, _, _, rfl, rfl, .of (hs _ _ hl), .of upd_same, _, rfl, ?_⟩
    have e : vs.isEmpty = xs.isEmpty := (by have := ra.length; cases vs <;> cases xs <;> simp at this ⊢)
    rw [e]
    exact k _ ρ1 C1 F1 _ s1 R2 q⟩
end
end M61

set_option Elab.async false
set_option linter.all false
set_option autoImplicit false
set_option maxRecDepth 100000
/-! M4l: sorted from the greatest down. -/
namespace M61
open PySem PySem.Spec PyProof.Rows L2
section
variable {X : Cx}
theorem sort_down {a b : List Int} (p : a.Perm b) (h : a.Pairwise (· ≥ ·)) : a = (sortI b).reverse := by
  have h1 : a.reverse.Pairwise (· ≤ ·) := List.pairwise_reverse.mpr h
  have h2 : a.reverse = sortI b := sort_uniq (a.reverse_perm.trans (p.trans (sortI_perm b).symm)) h1 (sortI_sorted b)
  rw [← h2, List.reverse_reverse]
def rDown (K : PySem.W.Frag) (r : D → (List D → Prop) → Prop) : List V → List V → Hp → VK → Prop := fun vs zs H Q => zs = [.bl true] ∧ liftF K r vs H Q
theorem c_sortedR : CallRK X (.builtin "sorted") [Str.ofString "reverse"] (rDown X.K fun d P => match d with | .lst xs => ∃ ns, intsOf xs = some ns ∧ P ((sortI ns).reverse.map D.int) | _ => False) := by
  intro pins s σ H xs zs us ws Q I r rz ⟨ez, F, v, d, P, e, sF, rv, m, k⟩
  subst e ez
  dsimp only at m
  split at m
  · obtain ⟨a, vs, rfl, ha, ra⟩ := rv.lst_inv
    obtain ⟨ns, hn, p⟩ := m
    rw [reps_ints ra hn] at ha
    refine cr_sortedRev (b := true) pins s σ H _ _ us ws Q I r rz ⟨a, ns, rfl, rfl, .of (sF _ _ ha), fun ns' q hp hs hq => ?_⟩
    have e : ns' = (sortI ns).reverse := sort_down hp hs
    rw [e]
    exact k _ q _ hq (rep_ints _) p
  · exact m.elim
theorem l_callK {r : D → (List D → Prop) → Prop} {ma : ME} {e : Expr} (h : PE X e (tCKw (rDown X.K r) (tCons (rd X.K ma) tNil) (tCons (tC (.bl true)) tNil))) : PE X e (rdL X.K fun ρ C P => ma ρ C fun x ρ1 C1 => r x fun ds => P ds ρ1 C1) := pe_weak h fun σ H Q ⟨B, F, ρ, C, P, R, m, k⟩ =>
  ⟨B, F, ρ, C, _, R, m, fun x ρ1 C1 F1 v1 H1 s1 R1 r1 q1 => ⟨rfl, F1, v1, x, _, rfl, R1.ce.fh, r1, q1, fun ds p vs hp rs p3 => by
    obtain ⟨R2, f1, f2, f3, f4⟩ := rel_fresh (vs := vs) R1 hp
    exact k _ ρ1 C1 F1 p vs _ s1 R2 upd_same rs f1 f2 f3 f4 p3⟩⟩
theorem kw_rev {p : Pos} {v : Expr} {kpos : Pos} : (backToKw p (keywordEach [⟨some (Str.ofString "reverse"), v, kpos⟩] X.env)).all (·.1.isSome) = true := rfl
end
end M61

set_option Elab.async false
set_option linter.all false
set_option autoImplicit false
set_option maxRecDepth 100000
/-! M4m: the greatest of numbers or else, great letters, a written dict asked, or by any value, tests of three links, lists made of a cell's numbers, a tuple sorted. -/
namespace M61
open PySem PySem.Spec PyProof.Rows L2
section
variable {X : Cx}
/-! ### max(.., default=..), min(.., default=..) -/
def rMxo (K : PySem.W.Frag) (g : List Int → Int) : List V → List V → Hp → VK → Prop := fun vs zs H Q => ∃ (F : Hp) (v u : V) (x y : D) (C : CM) (P : D → Prop), vs = [v] ∧ zs = [u] ∧ Cells K F H C ∧ Rep K F v x ∧ Rep K F u y ∧
  (∃ xs ns, seqD C x = some xs ∧ intsOf xs = some ns ∧ P (if ns = [] then y else .int (g ns))) ∧ ∀ d v', Rep K F v' d → P d → Q v' H
theorem c_maxo (hc : X.calm = true) (hr : Room 0 X.A) : CallRK X (.builtin "max") [Str.ofString "default"] (rMxo X.K maxI) := by
  intro pins s σ H xs zs us ws Q I r rz ⟨F, v, u, x, y, C, P, e1, e2, ce, r1, r2, ⟨ys, ns, h1, h2, p⟩, k⟩
  subst e1 e2
  have hu : X.A.units + 1 < cLine := by have := hr.un; omega
  obtain ⟨a, rfl, its, hi, hl⟩ := seq_ints I ce r1 h1 h2
  rw [Vals.ref1 r]
  obtain ⟨w1, rfl, rel⟩ := vals1 rz
  have hR := hi.reads s.heap
  have hD : X.A.units + 1 + PyData.depthAll (ns.map PyData.int) < cLine := by rw [depth_ints ns]; exact hu
  have g0 : ns.map PyData.int = [] → ∀ h' tk, (∀ b o, s.heap.get? b = some o → h'.get? b = some o) → EP X pins σ Q w1 { s with heap := h', toks := tk } := fun e h' tk hk => by
    have en : ns = [] := List.map_eq_nil_iff.mp e
    rw [if_pos en] at p
    exact ⟨u, H, I.kept hk, rel, k _ _ r2 p⟩
  have g1 : ∀ (y' : PyData) (ys' : List PyData) (i : Nat) v' h' tk bs, ns.map PyData.int = y' :: ys' → its.toArray[i]? = some v' → Reads h' v' (PySem.W.maxD y' ys') bs → (∀ b o, s.heap.get? b = some o → h'.get? b = some o) → EP X pins σ Q v' { s with heap := h', toks := tk } := fun y' ys' i v' h' tk bs e hv rd hk => by
    cases ns with
    | nil => cases e
    | cons n ns =>
      rw [List.map_cons] at e
      cases e
      rw [PySem.W.maxD_ints] at rd
      obtain ⟨t, rfl, _⟩ := reads_int_inv rd
      rw [if_neg (by simp)] at p
      exact ⟨.int _, H, I.kept hk, ⟨_, rfl⟩, k _ _ (.int _) p⟩
  rcases hl with hl | hl
  · exact PySem.W.max_list_default (I.ok.hd hc) hl (by simpa using hR) (alike_ints ns) hD g0 g1
  · exact PySem.W.max_tuple_default (I.ok.hd hc) hl (by simpa using hR) (alike_ints ns) hD g0 g1
theorem c_mino (hc : X.calm = true) (hr : Room 0 X.A) : CallRK X (.builtin "min") [Str.ofString "default"] (rMxo X.K minI) := by
  intro pins s σ H xs zs us ws Q I r rz ⟨F, v, u, x, y, C, P, e1, e2, ce, r1, r2, ⟨ys, ns, h1, h2, p⟩, k⟩
  subst e1 e2
  have hu : X.A.units + 1 < cLine := by have := hr.un; omega
  obtain ⟨a, rfl, its, hi, hl⟩ := seq_ints I ce r1 h1 h2
  rw [Vals.ref1 r]
  obtain ⟨w1, rfl, rel⟩ := vals1 rz
  have hR := hi.reads s.heap
  have hD : X.A.units + 1 + PyData.depthAll (ns.map PyData.int) < cLine := by rw [depth_ints ns]; exact hu
  have g0 : ns.map PyData.int = [] → ∀ h' tk, (∀ b o, s.heap.get? b = some o → h'.get? b = some o) → EP X pins σ Q w1 { s with heap := h', toks := tk } := fun e h' tk hk => by
    have en : ns = [] := List.map_eq_nil_iff.mp e
    rw [if_pos en] at p
    exact ⟨u, H, I.kept hk, rel, k _ _ r2 p⟩
  have g1 : ∀ (y' : PyData) (ys' : List PyData) (i : Nat) v' h' tk bs, ns.map PyData.int = y' :: ys' → its.toArray[i]? = some v' → Reads h' v' (PySem.W.minD y' ys') bs → (∀ b o, s.heap.get? b = some o → h'.get? b = some o) → EP X pins σ Q v' { s with heap := h', toks := tk } := fun y' ys' i v' h' tk bs e hv rd hk => by
    cases ns with
    | nil => cases e
    | cons n ns =>
      rw [List.map_cons] at e
      cases e
      rw [PySem.W.minD_ints] at rd
      obtain ⟨t, rfl, _⟩ := reads_int_inv rd
      rw [if_neg (by simp)] at p
      exact ⟨.int _, H, I.kept hk, ⟨_, rfl⟩, k _ _ (.int _) p⟩
  rcases hl with hl | hl
  · exact PySem.W.min_list_default (I.ok.hd hc) hl (by simpa using hR) (alike_ints ns) hD g0 g1
  · exact PySem.W.min_tuple_default (I.ok.hd hc) hl (by simpa using hR) (alike_ints ns) hD g0 g1
theorem e_mxo {g : List Int → Int} {ma mb : ME} {e : Expr} (h : PE X e (tCKw (rMxo X.K g) (tCons (rd X.K ma) tNil) (tCons (rd X.K mb) tNil))) :
    PE X e (rd X.K fun ρ C P => ma ρ C fun x ρ1 C1 => mb ρ1 C1 fun y ρ2 C2 => ∃ xs ns, seqD C2 x = some xs ∧ intsOf xs = some ns ∧ P (if ns = [] then y else .int (g ns)) ρ2 C2) := pe_weak h fun σ H Q ⟨B, F, ρ, C, P, R, m, k⟩ =>
  ⟨B, F, ρ, C, _, R, m, fun x ρ1 C1 F1 v1 H1 s1 R1 r1 q1 => ⟨B, F1, ρ1, C1, _, R1, q1, fun y ρ2 C2 F2 v2 H2 s2 R2 r2 q2 =>
    ⟨F2, v1, v2, x, y, C2, fun d => P d ρ2 C2, rfl, rfl, R2.ce, r1.mono s2, r2, q2, fun d v' r' p => k d ρ2 C2 F2 v' H2 (s1.trans s2) R2 r' p⟩⟩⟩
theorem kw_dfl {p : Pos} {v : Expr} {kpos : Pos} : (backToKw p (keywordEach [⟨some (Str.ofString "default"), v, kpos⟩] X.env)).all (·.1.isSome) = true := rfl
/-! ### great letters -/
theorem e_upr {ma : ME} {e : Expr} (h : PE X e (tBM0 X.K "str" (fun x xs H Q => ∃ a, x = .str a ∧ xs = [] ∧ a.length ≤ 5592405 ∧ Q (.str (Txt.upper a)) H) (rd X.K ma))) :
    PE X e (rd X.K fun ρ C P => ma ρ C fun x ρ1 C1 => match x with | .str s => s.length ≤ 5592405 ∧ P (.str (Txt.upper s)) ρ1 C1 | _ => False) := pe_weak h fun σ H Q ⟨B, F, ρ, C, P, R, m, k⟩ =>
  ⟨B, F, ρ, C, _, R, m, fun x ρ1 C1 F1 v1 H1 s1 R1 r1 q1 => by
    try dsimp only at q1
    split at q1
    · rename_i z
      cases r1
      exact ⟨rfl, z, rfl, rfl, q1.1, k _ ρ1 C1 F1 _ H1 s1 R1 (.str _) q1.2⟩
    · exact q1.elim⟩
/-! ### or, by any value -/
theorem e_orv {ma mb : ME} {e : Expr} (h : PE X e (tOrT X.K (rd X.K ma) (rd X.K mb))) :
    PE X e (rd X.K fun ρ C P => ma ρ C fun x ρ1 C1 => truD x fun k => if k = true then P x ρ1 C1 else mb ρ1 C1 P) := pe_weak h fun σ H Q ⟨B, F, ρ, C, P, R, m, k⟩ =>
  ⟨B, F, ρ, C, _, R, m, fun x ρ1 C1 F1 v1 H1 s1 R1 r1 q1 => by
    obtain ⟨b, hb, p⟩ := tru_of R1.ce.fh r1 q1
    refine ⟨b, hb, ?_⟩
    cases b with
    | true => exact k x ρ1 C1 F1 v1 H1 s1 R1 r1 p
    | false => exact ⟨B, F1, ρ1, C1, _, R1, p, fun d ρ2 C2 F2 v2 H2 s2 R2 r2 q2 => k d ρ2 C2 F2 v2 H2 (s1.trans s2) R2 r2 q2⟩⟩
/-! ### tests of three links -/
section
variable {a b d f : Expr} {pos : Pos}
theorem pt_chain3 {op op' op'' : CmpOp} {r r' r'' : R2} {ta tb tc td : TE} (ho : OpR X (compareOp op) r) (ho' : OpR X (compareOp op') r') (ho'' : OpR X (compareOp op'') r'') (ha : PE X a ta) (hb : PE X b tb) (hc : PE X d tc) (hd : PE X f td)
    (hm : lastMarks [op, op', op''] [b, d, f] = false) : PT X (.Compare a [op, op', op''] [b, d, f] pos) (tTest (tChain3 r r' r'' ta tb tc td)) := by
  refine ⟨fun pins s σ H Q I h => ?_⟩
  refine isTrue_chain (thn (ha.run pins s σ H _ I h) fun v1 s1 ⟨x1, H1, I1, r1, q1⟩ => test_link (thn (hb.run pins s1 σ H1 _ I1 q1) fun v2 s2 ⟨x2, H2, I2, r2, q2⟩ =>
    thn (ho pins s2 σ H2 x1 x2 v1 v2 _ I2 r1 r2 q2) fun t1 s3 ⟨y1, H3, I3, r3, k1, e1, q3⟩ => ?_)) hm
  subst e1
  cases r3
  refine wpAny_truthy_bool ?_
  cases k1 with
  | false =>
    obtain ⟨k', e', q'⟩ := q3
    cases e'
    exact ite_ff ⟨H3, I3, q'⟩
  | true =>
    refine ite_tt (test_link (thn (hc.run pins s3 σ H3 _ I3 q3) fun v3 s4 ⟨x3, H4, I4, r4, q4⟩ => thn (ho' pins s4 σ H4 x2 x3 v2 v3 _ I4 r2 r4 q4) fun t2 s5 ⟨y2, H5, I5, r5, k2, e2, q5⟩ => ?_))
    subst e2
    cases r5
    refine wpAny_truthy_bool ?_
    cases k2 with
    | false =>
      obtain ⟨k', e', q'⟩ := q5
      cases e'
      exact ite_ff ⟨H5, I5, q'⟩
    | true =>
      refine ite_tt (test_last (thn (hd.run pins s5 σ H5 _ I5 q5) fun v4 s6 ⟨x4, H6, I6, r6, q6⟩ => thn (ho'' pins s6 σ H6 x3 x4 v3 v4 _ I6 r4 r6 q6) fun t3 s7 ⟨y3, H7, I7, r7, k3, e3, q7⟩ => ?_))
      subst e3
      cases r7
      exact wpAny_truthy_bool ⟨H7, I7, q7⟩
end
theorem t_chn3 {r r' r'' : D → D → (Bool → Prop) → Prop} {ma mb mc md : ME} {e : Expr} (h : PT X e (tTest (tChain3 (lift2 X.K fun d e P => r d e fun b => P (.bl b)) (lift2 X.K fun d e P => r' d e fun b => P (.bl b)) (lift2 X.K fun d e P => r'' d e fun b => P (.bl b)) (rd X.K ma) (rd X.K mb) (rd X.K mc) (rd X.K md)))) :
    PT X e (rdT X.K fun ρ C P => ma ρ C fun x ρ1 C1 => mb ρ1 C1 fun y ρ2 C2 => r x y fun k => if k = true then mc ρ2 C2 fun z ρ3 C3 => r' y z fun k' => if k' = true then md ρ3 C3 fun u ρ4 C4 => r'' z u fun k'' => P k'' ρ4 C4 else P false ρ3 C3 else P false ρ2 C2) :=
  pt_weak h fun σ H Q ⟨B, F, ρ, C, P, R, m, k⟩ =>
  ⟨B, F, ρ, C, _, R, m, fun x ρ1 C1 F1 v1 H1 s1 R1 r1 q1 => ⟨B, F1, ρ1, C1, _, R1, q1, fun y ρ2 C2 F2 v2 H2 s2 R2 r2 q2 =>
    ⟨F2, x, y, blP fun k => if k = true then mc ρ2 C2 fun z ρ3 C3 => r' y z fun k' => if k' = true then md ρ3 C3 fun u ρ4 C4 => r'' z u fun k'' => P k'' ρ4 C4 else P false ρ3 C3 else P false ρ2 C2, R2.ce.fh, r1.mono s2, r2, q2, fun d F3 v3 H3 g r3 p3 => by
      obtain ⟨b, rfl, rfl, p3⟩ := blP_inv r3 p3
      refine ⟨b, rfl, ?_⟩
      cases b with
      | false => exact ⟨false, rfl, k _ ρ2 C2 F3 H3 (s1.trans (s2.trans g.ff)) (R2.grow g) p3⟩
      | true => exact ⟨B, F3, ρ2, C2, _, R2.grow g, p3, fun z ρ3 C3 F4 v4 H4 s4 R4 r4 q4 => ⟨F4, y, z, blP fun k' => if k' = true then md ρ3 C3 fun u ρ4 C4 => r'' z u fun k'' => P k'' ρ4 C4 else P false ρ3 C3, R4.ce.fh, (r2.mono g.ff).mono s4, r4, q4, fun d F5 v5 H5 g5 r5 p5 => by
          obtain ⟨b, rfl, rfl, p5⟩ := blP_inv r5 p5
          refine ⟨b, rfl, ?_⟩
          cases b with
          | false => exact ⟨false, rfl, k _ ρ3 C3 F5 H5 (s1.trans (s2.trans (g.ff.trans (s4.trans g5.ff)))) (R4.grow g5) p5⟩
          | true => exact ⟨B, F5, ρ3, C3, _, R4.grow g5, p5, fun u ρ6 C6 F6 v6 H6 s6 R6 r6 q6 => ⟨F6, z, u, blP fun k'' => P k'' ρ6 C6, R6.ce.fh, (r4.mono g5.ff).mono s6, r6, q6, fun d F7 v7 H7 g7 r7 p7 => by
              obtain ⟨b, rfl, rfl, p7⟩ := blP_inv r7 p7
              exact ⟨b, rfl, k _ ρ6 C6 F7 H7 (s1.trans (s2.trans (g.ff.trans (s4.trans (g5.ff.trans (s6.trans g7.ff)))))) (R6.grow g7) p7⟩⟩⟩⟩⟩⟩⟩⟩
/-! ### a written dict of numbers asked -/
/-- its entries -/
def EntsAre : List (String × Int) → List DictEntry → Prop
  | [], [] => True
  | (k, i) :: r, e :: es => (∃ t, e.key = .str (Str.ofString k) t) ∧ (∃ u, e.val = .int i u) ∧ EntsAre r es
  | _, _ => False
def WDct (K : PySem.W.Frag) (w : World) (a : Addr) (kvs : List (String × Int)) : Prop :=
  ∃ es n, K.lookup a = some ⟨.type "dict", none, .dict es n, #[]⟩ ∧ PySem.W.KeysLit w.params es.toList ∧ (a == sysModules) = false ∧ EntsAre kvs es.toList
/-- what it gives, as a value -/
def ggetV (kvs : List (String × Int)) (s : Str) : V := match (kvs.find? fun kv => decide (Str.ofString kv.1 = s)) with
  | some kv => .int kv.2
  | none => .non
theorem ents_find (s : Str) : ∀ {kvs : List (String × Int)} {es : List DictEntry}, EntsAre kvs es → RelV (ggetV kvs s) (((es.find? fun e => Value.isStrOf s e.key).map (·.val)).getD .none)
  | [], [], _ => rfl
  | (k, i) :: r, e :: es, ⟨⟨t, e1⟩, ⟨u, e2⟩, h⟩ => by
    by_cases q : Str.ofString k = s
    · have h1 : Value.isStrOf s e.key = true := by rw [e1, q]; exact beq_self_eq_true _
      rw [List.find?_cons, h1]
      show RelV (ggetV ((k, i) :: r) s) e.val
      rw [e2, show ggetV ((k, i) :: r) s = V.int i from by unfold ggetV; rw [List.find?_cons, show decide (Str.ofString k = s) = true from decide_eq_true q]]
      exact ⟨u, rfl⟩
    · have h1 : Value.isStrOf s e.key = false := by
        rw [e1]
        show (Str.ofString k == s) = false
        simpa using q
      rw [List.find?_cons, h1]
      rw [show ggetV ((k, i) :: r) s = ggetV r s from by unfold ggetV; rw [List.find?_cons, show decide (Str.ofString k = s) = false from decide_eq_false q]]
      exact ents_find s h
  | [], _ :: _, h => h.elim
  | _ :: _, [], h => h.elim
theorem rep_gget (K : PySem.W.Frag) (F : Hp) (kvs : List (String × Int)) (s : Str) : Rep K F (ggetV kvs s) (ggetD kvs s) := by
  unfold ggetV ggetD
  cases (kvs.find? fun kv => decide (Str.ofString kv.1 = s)) with
  | some kv => exact .int _
  | none => exact .non
def tGGet (kvs : List (String × Int)) (te : TE) : TE := fun σ H Q => te σ H fun y H1 => ∃ z, y = .str z ∧ Q (ggetV kvs z) H1
theorem pe_gget {o e : Expr} {apos cpos : Pos} {kvs : List (String × Int)} {te : TE} {a : Addr} (ho : PE X o (tC (.ref a))) (d : WDct X.K X.w a kvs) (he : PE X e te) (m : M1 X o "get" apos e cpos) : PE X (.Call (.Attribute o "get" apos) [e] [] cpos) (tGGet kvs te) := by
  obtain ⟨es, n, hl, hk, hs, ea⟩ := d
  refine ⟨fun pins s σ H Q I h => ?_⟩
  refine wpAny_Call_method m.base m.few m.line PySem.F.plainAttrs_dict PySem.F.slot_dict_get PySem.F.type_dict_get (thn (ho.run pins s σ H (fun x H1 => x = .ref a ∧ H1 = H) I ⟨rfl, rfl⟩) fun u s1 ⟨x, H1, I1, rx, ex, e1⟩ => ?_)
  subst ex e1
  obtain rfl : u = Value.ref a := rx
  have hm := PySem.W.mapOf_K (prog := X.prog) (w := X.w) I1.kIn hl hk
  refine ⟨hm.typeIs, fun b q => ?_, ?_⟩
  · cases q
    exact ⟨_, I1.kIn _ _ hl, rfl⟩
  rw [m.trees]
  refine Calls.callWith_builtin rfl (Calls.evalArgs_plain (Calls.spliced_cons (thn (he.run pins s1 σ H1 _ I1 h) fun iv s2 ⟨y, H2, I2, ry, z, ez, q2⟩ => Calls.spliced_nil ?_)))
  subst ez
  obtain ⟨t, rfl⟩ := (show ∃ t, iv = Value.str z t from ry)
  have hm2 := PySem.W.mapOf_K (prog := X.prog) (w := X.w) I2.kIn hl hk
  refine call_meetsIn PySem.F.slot_dict_get hm2.typeIs PySem.F.entry_dict_get (PySem.F.args_dict_get_2 _ _) (meets_dict_get (strKind X.prog X.w) a (strKind_is X.prog X.w z t) hs) ⟨_, hm2, ggetV kvs z, H2, I2.tok _, ?_, q2⟩
  have q := ents_find z ea
  unfold findBy
  rw [← Array.find?_toList]
  exact q
theorem e_gget {kvs : List (String × Int)} {ma : ME} {e : Expr} (h : PE X e (tGGet kvs (rd X.K ma))) :
    PE X e (rd X.K fun ρ C P => ma ρ C fun x ρ1 C1 => match x with | .str s => P (ggetD kvs s) ρ1 C1 | _ => False) := pe_weak h fun σ H Q ⟨B, F, ρ, C, P, R, m, k⟩ =>
  ⟨B, F, ρ, C, _, R, m, fun x ρ1 C1 F1 v1 H1 s1 R1 r1 q1 => by
    try dsimp only at q1
    split at q1
    · rename_i z
      cases r1
      exact ⟨z, rfl, k _ ρ1 C1 F1 _ H1 s1 R1 (rep_gget _ _ _ _) q1⟩
    · exact q1.elim⟩
/-! ### a comprehension over a cell's numbers -/
theorem compC_at {a : Addr} {ns : List Int} {turn : D → CM → (Option D → CM → Prop) → Prop} {ds : List Int} {acc : List D} {C : CM} {P : List D → CM → Prop} (h : compGoC a ns turn ds acc C P) : C a = some (.lst (ns.map .int)) := by
  cases ds with
  | nil => exact h.1
  | cons d ds => exact h.1
theorem te_compc {me0 : ME} {tg : Tg} {mc : MT} {me : ME} {vs : List Nat} (hsub : ∀ i ∈ tgSlots tg, i ∈ vs) : ∀ (σ : L2.St) (H : Hp) (Q : VK), rdL X.K (fun ρ C P => me0 ρ C fun x ρ1 C1 => match x with
      | .ref a => ∃ ns : List Int, compGoC a ns (compTurn tg mc me vs ρ1) ns [] C1 fun acc C4 => P acc ρ1 C4
      | _ => False) σ H Q →
    tLc (iSeq X.K (rd X.K me0)) (rg X.K tg) (rdT X.K mc) (rd X.K me) vs σ H Q := fun σ H Q ⟨B, F, ρ, C, P, R, m, k⟩ =>
  ⟨B, F, ρ, C, _, R, m, fun x ρ1 C1 F1 v1 H1 s1 R1 r1 q1 => by
    try dsimp only at q1
    split at q1
    · rename_i a
      obtain ⟨ns, q1⟩ := q1
      cases r1
      have atC : ∀ {F2 : Hp} {H2 : Hp} {C2 : CM}, Cells X.K F2 H2 C2 → C2 a = some (.lst (ns.map .int)) → H2 a = some (HO.lst (ns.map V.int)) ∧ Reps X.K F2 (ns.map V.int) (ns.map .int) := fun ce hc => by
        obtain ⟨us, hl, ra⟩ := (ce.cel _ _ hc).1
        have e := reps_nums ra
        subst e
        exact ⟨hl, ra⟩
      obtain ⟨hl1, ra1⟩ := atC R1.ce (compC_at q1)
      refine ⟨a, ns.map V.int, rfl, .inl ⟨.of hl1, fun D hD => ?_⟩⟩
      have bn := R1.base_none hD
      have no := R1.notOwn_of hD
      have nda : a ≠ D := fun z => by subst z; rw [hl1] at hD; cases hD
      refine lc_it walk_list (fun i H => ∃ F2 C2 acc vacc, Same F1 F2 ∧ Rel X.K B F2 σ H ρ1 C2 ∧ H D = some (HO.lst vacc) ∧ Reps X.K F2 vacc acc ∧ F2 D = none ∧ C2 D = none ∧
        compGoC a ns (compTurn tg mc me vs ρ1) (ns.drop i) acc C2 fun acc C4 => P acc ρ1 C4) ?_ (fun i H _ ⟨F2, C2, acc, vacc, s2, R2, _, _, _, _, q2⟩ => .of (atC R2.ce (compC_at q2)).1) (fun i x H H' hi pv y => ?_) (fun H pv => ?_)
      · obtain ⟨R2, f1, f2, f3, f4⟩ := rel_fresh (vs := []) R1 hD
        exact ⟨F1, C1, [], [], Same.refl _, R2, upd_same, .nil, f1, f2, q1⟩
      · obtain ⟨F2, C2, acc, vacc, s2, R2, hl, ra, n1, n2, q2⟩ := pv
        obtain ⟨F3, d, g, hd, rd⟩ := it_at ra1 s2 R2.ce.fh y
        rw [List.getElem?_map] at hd
        obtain ⟨nd, hnd, rfl⟩ := Option.map_eq_some_iff.mp hd
        have ed : ns.drop i = nd :: ns.drop (i + 1) := by
          obtain ⟨h1, h2⟩ := List.getElem?_eq_some_iff.mp hnd
          rw [← h2]; exact List.drop_eq_getElem_cons h1
        rw [ed] at q2
        have R3 := R2.grow g
        have hl3 : H' D = some (HO.lst vacc) := g.hh _ _ hl
        have n3 : F3 D = none := by
          cases z : F3 D with
          | none => rfl
          | some u =>
            rcases g.fnew D u z with z | z
            · rw [n1] at z; cases z
            · rw [hl] at z; cases z
        have nown : ¬ OwnAt (wipeR ρ1 vs) (wipe σ vs) D := fun ⟨j, ys, q1, q2⟩ => by
          obtain ⟨q3, nj⟩ := wipeR_some q1
          rw [wipe_outS nj] at q2
          exact no j ys q3 q2
        refine ⟨_, F3, wipeR ρ1 vs, C2, .int nd, _, (R3.wiped vs).rebase, rd, q2.2, fun ρ2 σ2 R4 o4 q4 => ?_⟩
        have o5 : σ2.length = σ.length ∧ ∀ i, i ∉ vs → ρ2[i]? = ρ1[i]? ∧ σ2[i]? = σ[i]? := by
          obtain ⟨o1, o2⟩ := o4.mono hsub
          exact ⟨o1.trans (wipe_length _ _), fun i hi => ⟨(o2 i hi).1.trans (wipeR_out hi), (o2 i hi).2.trans (wipe_outS hi)⟩⟩
        refine ⟨wipe_eq o5.1 fun i hi => (o5.2 i hi).2, _, F3, ρ2, C2, _, R4, q4, fun b ρ3 C3 F5 H5 s5 R5 ⟨e3, q5⟩ => ?_⟩
        subst e3
        cases b with
        | false =>
          obtain ⟨k1, k2, k3⟩ := R5.keep hl3 n3 n2 nown
          exact ⟨F5, C3, acc, vacc, s2.trans (g.ff.trans s5), R3.back R5 o5.2, k1, ra.mono (g.ff.trans s5), k2, k3, q5⟩
        | true =>
          refine ⟨_, F5, ρ3, C3, _, R5, q5, fun y ρ4 C4 F6 v6 H6 s6 R6 r6 ⟨e4, q6, q7⟩ => ?_⟩
          subst e4
          obtain ⟨k1, k2, k3⟩ := R6.keep hl3 n3 n2 nown
          have s7 : Same F2 F6 := g.ff.trans (s5.trans s6)
          refine ⟨vacc, k1, by rw [ra.length]; exact q6, F6, C4, acc ++ [y], vacc ++ [v6], s2.trans s7, (R3.back R6 o5.2).updFree k2 k3 bn no, upd_same, (ra.mono s7).append (.cons r6 .nil), k2, k3, q7⟩
      · obtain ⟨F2, C2, acc, vacc, s2, R2, hl, ra, n1, n2, q2⟩ := pv
        rw [show ns.drop (ns.map V.int).length = [] by rw [List.length_map, List.drop_length]] at q2
        exact k acc ρ1 C2 F2 D vacc H (s1.trans s2) R2 hl ra n1 n2 bn no q2.2
    · exact q1.elim⟩
end
end M61

set_option Elab.async false
set_option linter.all false
set_option autoImplicit false
set_option maxRecDepth 100000
/-! M5a: whether the text says what the inner form says. -/
namespace M61
open PySem PySem.Spec PyProof.Rows L2

structure Cfg where
  N : List Str
  sc : Scope
  /-- the block that runs, where it isn't the def's own -/
  blk : Option Scope
  sigs : List (String × Nat)
  cons : List (String × Int)
  txts : List (String × String)
  dcts : List (String × List (String × Int))
def visB (sc : Scope) (x : Str) : Bool := match sc.names.lookup x with
  | some .local => true | some .cell => true | some .free => true | _ => false
def locB (c : Cfg) (x : Str) : Bool := match c.sc.names.lookup x with
  | some .local => true
  | some .cell => (match c.blk with | none => true | some s => s.names.lookup x == some .cell)
  | _ => false
def glB (sc : Scope) (x : Str) : Bool := decide (sc.names.lookup x = some .globalImplicit)
def plainNm (x : Str) : Bool := !(x == ("__debug__" : Str)) && !(x == ("__classdict__" : Str)) && !(x == ("__name__" : Str))
def isNm (s : String) (x : Str) : Bool := decide (x = Str.ofString s)
def notStar : Expr → Bool
  | .Starred .. => false
  | _ => true
def notSlice : Expr → Bool
  | .Slice .. => false
  | _ => true
def attrOk : Expr → Bool
  | .Call (.Name ..) [] [] _ => false
  | _ => true
def plainTest : Expr → Bool
  | .UnaryOp .Not _ _ => false
  | .BoolOp .. => false
  | .IfExp .. => false
  | .Compare .. => false
  | _ => true
def chkVar (c : Cfg) (i : Nat) : Expr → Bool
  | .Name x _ => decide (c.N[i]? = some x) && visB c.sc x && plainNm x
  | _ => false
/-- a built-in's name -/
def chkG (c : Cfg) (s : String) : Expr → Bool
  | .Name x _ => isNm s x && glB c.sc x && plainNm x
  | _ => false
def bltName : Blt → String
  | .len => "len" | .tuple => "tuple" | .sum => "sum" | .min => "min" | .max => "max" | .min2 => "min" | .max2 => "max" | .abs => "abs" | .int => "int" | .all => "all" | .any => "any" | .repr => "repr" | .min3 => "min" | .str => "str" | .mind => "min" | .maxd => "max" | .min2d => "min"
/-- the built-ins that are spoken of -/
def usedB : List String := ["len", "tuple", "sum", "min", "max", "abs", "int", "all", "any", "isinstance", "bool", "list", "str", "dict", "range", "enumerate", "zip", "reversed", "sorted", "repr"]
mutual
def chkTg (c : Cfg) : Tg → Expr → Bool
  | .nm i, .Name x _ => decide (c.N[i]? = some x) && locB c x
  | .tp ts, .Tuple es _ _ => chkTgs c ts es
  | _, _ => false
def chkTgs (c : Cfg) : Tgs → List Expr → Bool
  | .nil, [] => true
  | .cons t ts, e :: es => chkTg c t e && chkTgs c ts es
  | _, _ => false
end
def isTupE : Expr → Bool
  | .Tuple .. => true
  | _ => false
def chkKV : List (String × String) → List (Option Expr) → List Expr → Bool
  | [], [], [] => true
  | (k, v) :: r, some (.Constant (.str x) _ _) :: ks, .Constant (.str y) _ _ :: vs => isNm k x && isNm v y && chkKV r ks vs
  | _, _, _ => false
def chkKs : List String → List (Option Expr) → Bool
  | [], [] => true
  | k :: r, some (.Constant (.str x) _ _) :: ks => isNm k x && chkKs r ks
  | _, _ => false
/-- a written key -/
def keyB : Int ⊕ String → Const → Bool
  | .inl i, .int j => decide (i = j)
  | .inr s, .str x => isNm s x
  | _, _ => false
mutual
def chkE (c : Cfg) : E → Expr → Bool
  | .var i, e => chkVar c i e
  | .mv i, e => chkVar c i e
  | .non, .Constant .none _ _ => true
  | .bl b, .Constant (.bool b') _ _ => b == b'
  | .int i, .Constant (.int i') _ _ => decide (i = i')
  | .str s, .Constant (.str x) _ _ => isNm s x
  | .con x i, .Name y _ => isNm x y && glB c.sc y && plainNm y && c.cons.contains (x, i)
  | .cns x s, .Name y _ => isNm x y && glB c.sc y && plainNm y && c.txts.contains (x, s)
  | .bin o a b, .BinOp l op r _ => decide (op = popOf o) && chkE c a l && chkE c b r
  | .neg a, .UnaryOp .USub x _ => chkE c a x
  | .cmp o a b, .Compare l [op] [r] _ => decide (op = copOf o) && chkE c a l && chkE c b r && !behindInMarks op r
  | .chn o o' a b d, .Compare l [op, op'] [m, r] _ => decide (op = copOf o) && decide (op' = copOf o') && chkE c a l && chkE c b m && chkE c d r && !lastMarks [op, op'] [m, r]
  | .chn3 o o' o'' a b d f, .Compare l [op, op', op''] [m, r, q] _ => decide (op = copOf o) && decide (op' = copOf o') && decide (op'' = copOf o'') && chkE c a l && chkE c b m && chkE c d r && chkE c f q && !lastMarks [op, op', op''] [m, r, q]
  | .dlk kvs a, .Subscript (.Dict ks vs _) s _ => chkKV kvs ks vs && chkE c a s && notSlice s && decide (kvs ≠ []) && decide (kvs.length ≤ 15)
  | .celd ks es, .Dict keys vals _ => chkKs ks keys && chkEs c es vals && decide (ks ≠ []) && decide (ks.length ≤ 15) && decide (keys.length = vals.length)
  | .edic, .Dict [] [] _ => true
  | .ndic k a, .Dict [some (.Constant w _ _)] [v] _ => keyB k w && chkE c a v
  | .dix a k, .Subscript v (.Constant (.str x) _ _) _ => chkE c a v && isNm k x
  | .and a b, .BoolOp .And [x, y] _ => chkE c a x && chkE c b y
  | .and a b, .BoolOp .And (x :: y :: z :: r) p => chkE c a x && chkE c b (.BoolOp .And (y :: z :: r) p)
  | .or a b, .BoolOp .Or [x, y] _ => chkE c a x && chkE c b y
  | .or a b, .BoolOp .Or (x :: y :: z :: r) p => chkE c a x && chkE c b (.BoolOp .Or (y :: z :: r) p)
  | .not a, .UnaryOp .Not x _ => chkE c a x
  | .ife t a b, .IfExp p x y _ => chkT c t p && chkE c a x && chkE c b y
  | .tup es, .Tuple xs _ _ => chkEs c es xs
  | .frz l, e => chkL c l e
  | .cel l, e => chkL c l e
  | .ix a b, .Subscript v s _ => chkE c a v && chkE c b s && notSlice s
  | .sl a lo hi, .Subscript v (.Slice l h none _) _ => chkE c a v && chkO c lo l && chkO c hi h
  | .rev a, .Subscript v (.Slice none none (some (.UnaryOp .USub (.Constant (.int k) _ _) _)) _) _ => chkE c a v && decide (k = 1)
  | .call f es, .Call (.Name x _) xs [] _ => isNm f x && glB c.sc x && plainNm x && c.sigs.contains (f, xs.length) && chkEs c es xs
  | .blt f es, .Call n xs [] _ => chkG c (bltName f) n && chkEs c es xs && decide (xs ≠ [])
  | .isi a t, .Call n [x, y] [] _ => chkG c "isinstance" n && chkE c a x && notStar x && chkG c (tyName t) y
  | .oix i b, .Subscript v s _ => chkVar c i v && chkE c b s && notSlice s
  | .olen i, .Call n [v] [] _ => chkG c "len" n && chkVar c i v
  | .one i, .Compare v [.NotEq] [.List [] _] _ => chkVar c i v
  | .oem i, .Compare v [.Eq] [.List [] _] _ => chkVar c i v
  | .lne a, .Compare v [.NotEq] [.List [] _] _ => chkE c a v
  | .leq a, .Compare v [.Eq] [.List [] _] _ => chkE c a v
  | .cne a, .Compare v [.NotEq] [.List [] _] _ => chkE c a v
  | .ceq a, .Compare v [.Eq] [.List [] _] _ => chkE c a v
  | .opop i, .Call (.Attribute v m ap) [] [] cp => chkVar c i v && isNm "pop" m && (ap.endLine == cp.line)
  | .cpop o, .Call (.Attribute v m ap) [] [] cp => chkE c o v && attrOk v && isNm "pop" m && (ap.endLine == cp.line)
  | .cpopA o k, .Call (.Attribute v m ap) [e] [] cp => chkE c o v && attrOk v && isNm "pop" m && (ap.endLine == cp.line) && chkE c k e && notStar e
  | .indx a b, .Call (.Attribute v m ap) [e] [] cp => chkE c a v && attrOk v && isNm "index" m && (ap.endLine == cp.line) && chkE c b e && notStar e
  | .mxo k a b, .Call n [x] [⟨some nm, y, _⟩] _ => chkG c (if k = true then "max" else "min") n && chkE c a x && notStar x && isNm "default" nm && chkE c b y
  | .gget x kvs a, .Call (.Attribute (.Name y _) m ap) [e] [] cp => isNm x y && glB c.sc y && plainNm y && c.dcts.contains (x, kvs) && isNm "get" m && (ap.endLine == cp.line) && chkE c a e && notStar e
  | .upr a, .Call (.Attribute v m ap) [] [] cp => chkE c a v && attrOk v && isNm "upper" m && (ap.endLine == cp.line)
  | .orv a b, .BoolOp .Or [x, y] _ => chkE c a x && chkE c b y
  | .orv a b, .BoolOp .Or (x :: y :: z :: r) p => chkE c a x && chkE c b (.BoolOp .Or (y :: z :: r) p)
  | _, _ => false
def chkT (c : Cfg) : T → Expr → Bool
  | .and a b, .BoolOp .And [x, y] _ => chkT c a x && chkT c b y
  | .and a b, .BoolOp .And (x :: y :: z :: r) p => chkT c a x && chkT c b (.BoolOp .And (y :: z :: r) p)
  | .or a b, .BoolOp .Or [x, y] _ => chkT c a x && chkT c b y
  | .or a b, .BoolOp .Or (x :: y :: z :: r) p => chkT c a x && chkT c b (.BoolOp .Or (y :: z :: r) p)
  | .not a, .UnaryOp .Not x _ => chkT c a x
  | .cmp o a b, .Compare l [op] [r] _ => decide (op = copOf o) && chkE c a l && chkE c b r && !behindInMarks op r
  | .chn o o' a b d, .Compare l [op, op'] [m, r] _ => decide (op = copOf o) && decide (op' = copOf o') && chkE c a l && chkE c b m && chkE c d r && !lastMarks [op, op'] [m, r]
  | .chn3 o o' o'' a b d f, .Compare l [op, op', op''] [m, r, q] _ => decide (op = copOf o) && decide (op' = copOf o') && decide (op'' = copOf o'') && chkE c a l && chkE c b m && chkE c d r && chkE c f q && !lastMarks [op, op', op''] [m, r, q]
  | .one i, .Compare v [.NotEq] [.List [] _] _ => chkVar c i v
  | .oem i, .Compare v [.Eq] [.List [] _] _ => chkVar c i v
  | .tne a, .Compare v [.NotEq] [.Tuple [] _ _] _ => chkE c a v
  | .teq a, .Compare v [.Eq] [.Tuple [] _ _] _ => chkE c a v
  | .lne a, .Compare v [.NotEq] [.List [] _] _ => chkE c a v
  | .leq a, .Compare v [.Eq] [.List [] _] _ => chkE c a v
  | .cne a, .Compare v [.NotEq] [.List [] _] _ => chkE c a v
  | .ceq a, .Compare v [.Eq] [.List [] _] _ => chkE c a v
  | .val a, e => chkE c a e && plainTest e
  | _, _ => false
def chkEs (c : Cfg) : Es → List Expr → Bool
  | .nil, [] => true
  | .cons a as, e :: es => chkE c a e && notStar e && chkEs c as es
  | _, _ => false
def chkO (c : Cfg) : O → Option Expr → Bool
  | .no, none => true
  | .yes a, some e => chkE c a e
  | _, _ => false
def chkC (c : Cfg) : Oc → List Expr → Bool
  | .no, [] => true
  | .yes a, [e] => chkT c a e
  | _, _ => false
def chkL (c : Cfg) : L → Expr → Bool
  | .lit es, .List xs _ => chkEs c es xs
  | .comp own elt tg it t, .ListComp el [⟨ta, ie, ifs, 0⟩] scope _ =>
    let nm := own.filterMap fun i => c.N[i]?.map fun x => (x, i)
    let c' : Cfg := { c with sc := relS scope c.sc, blk := some scope }
    chkI c it ta ie && blkC c.N c.sc scope nm && decide (nm.map (·.2) = own) && (tgSlots tg).all (fun i => own.contains i) && chkTg c' tg ta && chkC c' t ifs && chkE c' elt el && notSet ie
  | .compc own elt tg e t, .ListComp el [⟨ta, ie, ifs, 0⟩] scope _ =>
    let nm := own.filterMap fun i => c.N[i]?.map fun x => (x, i)
    let c' : Cfg := { c with sc := relS scope c.sc, blk := some scope }
    chkE c e ie && blkC c.N c.sc scope nm && decide (nm.map (·.2) = own) && (tgSlots tg).all (fun i => own.contains i) && chkTg c' tg ta && chkC c' t ifs && chkE c' elt el && notSet ie
  | .list e, .Call n [x] [] _ => chkG c "list" n && chkE c e x && notStar x
  | .srt e, .Call n [x] [] _ => chkG c "sorted" n && chkE c e x && notStar x
  | .srr e, .Call n [x] [⟨some nm, .Constant (.bool b) _ _, _⟩] _ => chkG c "sorted" n && chkE c e x && notStar x && isNm "reverse" nm && b
  | .lrg1 a, .Call n [.Call m [x] [] _] [] _ => chkG c "list" n && chkG c "range" m && chkE c a x && notStar x
  | .lrg2 a b, .Call n [.Call m [x, y] [] _] [] _ => chkG c "list" n && chkG c "range" m && chkE c a x && notStar x && chkE c b y && notStar y
  | .lrv a, .Subscript v (.Slice none none (some (.UnaryOp .USub (.Constant (.int k) _ _) _)) _) _ => chkE c a v && decide (k = 1)
  | .ls2 a, .Subscript v (.Slice (some (.UnaryOp .USub (.Constant (.int k') _ _) _)) none (some (.UnaryOp .USub (.Constant (.int k) _ _) _)) _) _ => chkE c a v && decide (k' = 2) && decide (k = 1)
  | .rep a b, .BinOp l .Mult r _ => chkE c a l && chkE c b r
  | .cat a b, .BinOp l .Add r _ => chkE c a l && chkE c b r
  | .rvd a, .Call n [.Call m [x] [] _] [] _ => chkG c "list" n && chkG c "reversed" m && chkE c a x && notStar x
  | _, _ => false
def chkI (c : Cfg) : I → Expr → Expr → Bool
  | .seq a, _, e => chkE c a e
  | .rng1 a, _, .Call n [x] [] _ => chkG c "range" n && chkE c a x && notStar x
  | .rng2 a b, _, .Call n [x, y] [] _ => chkG c "range" n && chkE c a x && notStar x && chkE c b y && notStar y
  | .rng3 a b d, _, .Call n [x, y, z] [] _ => chkG c "range" n && chkE c a x && notStar x && chkE c b y && notStar y && chkE c d z && notStar z
  | .enum a, .Tuple .., .Call n [x] [] _ => chkG c "enumerate" n && chkE c a x && notStar x
  | .zip a b, .Tuple .., .Call n [x, y] [] _ => chkG c "zip" n && chkE c a x && notStar x && chkE c b y && notStar y
  | .zip3 a b d, .Tuple .., .Call n [x, y, z] [] _ => chkG c "zip" n && chkE c a x && notStar x && chkE c b y && notStar y && chkE c d z && notStar z
  | .rvs a, _, .Call n [x] [] _ => chkG c "reversed" n && chkE c a x && notStar x
  | .rvr a b, _, .Call n [.Call m [x, y] [] _] [] _ => chkG c "reversed" n && chkG c "range" m && chkE c a x && notStar x && chkE c b y && notStar y
  | .rvr1 a, _, .Call n [.Call m [x] [] _] [] _ => chkG c "reversed" n && chkG c "range" m && chkE c a x && notStar x
  | _, _, _ => false
def notSet : Expr → Bool
  | .Set .. => false
  | _ => true
end
/-- no comprehension that is stored at once -/
def notComp : Expr → Bool
  | .ListComp .. => false
  | .SetComp .. => false
  | .DictComp .. => false
  | _ => true
/-- a comprehension that is stored at once: its name a local, on the same line -/
def swB (c : Cfg) (x : Str) (px : Pos) : Expr → Bool
  | .ListComp _ _ scope p => decide (c.sc.names.lookup x = some .local) && (px.line == p.line) && !(scope.names.any fun (n, k) => n == x && (k == .local || k == .cell))
  | _ => false
/-- .. or it isn't -/
def noSw (c : Cfg) (x : Str) (px : Pos) : Expr → Bool
  | .ListComp _ _ scope p => decide (c.sc.names.lookup x = some .cell) || !(px.line == p.line)
  | e => notComp e
def locL (c : Cfg) (x : Str) : Bool := decide (c.sc.names.lookup x = some .local)
/-- a display whose parts are stored one by one -/
def parV (vs : List Expr) : Bool := !(vs.all (foldedForSure 8)) && !(vs.all (constantsAlone 8))
def unpOk : Expr → Expr → Bool
  | .Tuple ts _ _, .Tuple vs _ _ => !(ts.length == 2 || ts.length == 3) || (vs.all (foldedForSure 8) && vs.all notStar)
  | .Tuple .., .ListComp .. => true
  | .Tuple .., e => notComp e
  | _, _ => false
/-- a target's name that is a cell -/
def cellNm (c : Cfg) : Expr → Bool
  | .Name x _ => decide (c.sc.names.lookup x = some .cell)
  | _ => false
/-- .. made a tuple, where a target's name is a cell -/
def unpCell (c : Cfg) : Expr → Expr → Bool
  | .Tuple ts _ _, .Tuple _ _ _ => ts.any (cellNm c)
  | _, _ => false
mutual
def chkS (c : Cfg) : S → Stmt → Bool
  | .set i a, .Assign [.Name x px] e _ => decide (c.N[i]? = some x) && locB c x && chkE c a e && notComp e
  | .setF i l, .Assign [.Name x px] e _ => decide (c.N[i]? = some x) && locB c x && chkL c l e && (swB c x px e || noSw c x px e)
  | .own i l, .Assign [.Name x px] e _ => decide (c.N[i]? = some x) && locB c x && chkL c l e && (swB c x px e || noSw c x px e)
  | .unp tg a, .Assign [t] e _ => chkTg c tg t && chkE c a e && (unpOk t e || unpCell c t e)
  | .par2 i j es, .Assign [.Tuple [.Name x px, .Name y py] _ _] (.Tuple [a, b] _ _) _ => decide (c.N[i]? = some x) && decide (c.N[j]? = some y) && decide (i ≠ j) && locL c x && locL c y && (py.line == px.line) && decide (([x, y] : List Str).eraseDups.length = 2) && parV [a, b] && chkEs c es [a, b]
  | .par3 i j l es, .Assign [.Tuple [.Name x px, .Name y py, .Name z pz] _ _] (.Tuple [a, b, d] _ _) _ => decide (c.N[i]? = some x) && decide (c.N[j]? = some y) && decide (c.N[l]? = some z) && decide (i ≠ j) && decide (i ≠ l) && decide (j ≠ l) && locL c x && locL c y && locL c z && (py.line == px.line) && (pz.line == px.line) && decide (([x, y, z] : List Str).eraseDups.length = 3) && parV [a, b, d] && chkEs c es [a, b, d]
  | .aug i o a, .AugAssign (.Name x px) op e _ => decide (c.N[i]? = some x) && locB c x && visB c.sc x && chkE c a e && ((decide (o = .add) && decide (op = .Add)) || (decide (o = .sub) && decide (op = .Sub)))
  | .app i a, .Expr (.Call (.Attribute v m ap) [e] [] cp) _ => chkVar c i v && isNm "append" m && (ap.endLine == cp.line) && chkE c a e && notStar e
  | .ext i a, .Expr (.Call (.Attribute v m ap) [e] [] cp) _ => chkVar c i v && isNm "extend" m && (ap.endLine == cp.line) && chkE c a e && notStar e
  | .oset i k a, .Assign [.Subscript v s _] e _ => chkVar c i v && chkE c k s && notSlice s && chkE c a e && notComp e
  | .dset o k a, .Assign [.Subscript v (.Constant (.str x) _ _) _] e _ => chkE c o v && isNm k x && chkE c a e && notComp e
  | .csub o k a, .Assign [.Subscript v s _] e _ => chkE c o v && chkE c k s && notSlice s && chkE c a e && notComp e
  | .capp o a, .Expr (.Call (.Attribute v m ap) [e] [] cp) _ => chkE c o v && attrOk v && isNm "append" m && (ap.endLine == cp.line) && chkE c a e && notStar e
  | .cins o k a, .Expr (.Call (.Attribute v m ap) [s, e] [] cp) _ => chkE c o v && attrOk v && isNm "insert" m && (ap.endLine == cp.line) && chkE c k s && notStar s && chkE c a e && notStar e
  | .exp a, .Expr e _ => chkE c a e && notComp e
  | .ife t a b, .If p x y _ => chkT c t p && chkSs c a x && chkSs c b y
  | .for tg it b, .For t e bd [] _ => chkTg c tg t && chkI c it t e && chkSs c b bd && notSet e
  | .forc tg a b, .For t e bd [] _ => chkTg c tg t && chkE c a e && chkSs c b bd && notSet e
  | .whl t b, .While p bd [] _ => chkT c t p && chkSs c b bd
  | .ret a, .Return (some e) _ => chkE c a e
  | .ret0, .Return none _ => true
  | .pass, .Pass _ => true
  | .brk, .Break _ => true
  | .cnt, .Continue _ => true
  | .nev, _ => true
  | _, _ => false
def chkSs (c : Cfg) : Ss → List Stmt → Bool
  | .nil, [] => true
  | .cons s ss, st :: sts => chkS c s st && chkSs c ss sts
  | _, _ => false
end
end M61

set_option Elab.async false
set_option linter.all false
set_option autoImplicit false
set_option maxRecDepth 100000
/-! M5b: what the check gives. -/
namespace M61
open PySem PySem.Spec PyProof.Rows L2
structure Good (c : Cfg) (G : Ctx) (n : Nat) (X : Cx) : Prop where
  hN : X.N = c.N
  nd : c.N.Nodup
  sc : X.env.scope = c.sc
  kind : c.sc.kind = .function
  calm : X.calm = true
  fn : ∀ x, locB c x = true → X.fn x = true ∨ c.sc.names.lookup x = some .local
  xe : X.xe = fun _ _ => False
  room : Room n X.A
  gd : X.A.guards = some []
  blt : ∀ b ∈ usedB, X.mg (Str.ofString b) = none
  fns : ∀ f k, c.sigs.contains (f, k) = true → ∃ fa fd ps, X.mg (Str.ofString f) = some (.ref fa) ∧ PySem.W.keepIn X.K (.ref fa) = true ∧ Binds X.K fd ps [] ∧
    FnG X.prog X.w X.K X.mg X.base CX0 n fa fd ps (spOf X.K fun ds C P => G.Γ f ds C P G.ex)
  con : ∀ x i, c.cons.contains (x, i) = true → ∃ u, X.mg (Str.ofString x) = some u ∧ L2.RelV (.int i) u
  txt : ∀ x s, c.txts.contains (x, s) = true → ∃ u, X.mg (Str.ofString x) = some u ∧ L2.RelV (.str (Str.ofString s)) u
  dct : ∀ x kvs, c.dcts.contains (x, kvs) = true → ∃ a, X.mg (Str.ofString x) = some (.ref a) ∧ WDct X.K X.w a kvs
section
variable {c : Cfg} {G : Ctx} {n : Nat} {X : Cx}
theorem Good.r0 (g : Good c G n X) : Room 0 X.A := g.room.mono (Nat.zero_le _)
theorem ff {p : Prop} (h : false = true) : p := absurd h Bool.false_ne_true
theorem an {a b : Bool} (h : (a && b) = true) : a = true ∧ b = true := Bool.and_eq_true_iff.mp h
theorem plainNm_inv {x : Str} (h : plainNm x = true) : (x == ("__debug__" : Str)) = false ∧ (x == ("__classdict__" : Str)) = false ∧ x ≠ "__name__" := by
  unfold plainNm at h
  simp only [Bool.and_eq_true, Bool.not_eq_true'] at h
  exact ⟨h.1.1, h.1.2, fun e => by have := h.2; rw [e] at this; simp at this⟩
theorem visB_inv {sc : Scope} {x : Str} (h : visB sc x = true) : Vis sc x := by
  unfold visB at h
  split at h
  · exact .inl (by assumption)
  · exact .inr (.inl (by assumption))
  · exact .inr (.inr (by assumption))
  · cases h
theorem locB_inv {x : Str} (h : locB c x = true) : Loc c.sc x := by
  unfold locB at h
  split at h
  · exact .inl (by assumption)
  · exact .inr (by assumption)
  · cases h
theorem var_pe (g : Good c G n X) {i : Nat} {e : Expr} (h : chkVar c i e = true) : PE X e (tVar i) := by
  cases e with
  | Name x p =>
    obtain ⟨h1, h2⟩ := an (show (decide (c.N[i]? = some x) && visB c.sc x && plainNm x) = true from h)
    obtain ⟨h0, h1⟩ := an h1
    obtain ⟨p1, p2, _⟩ := plainNm_inv h2
    exact pe_var (by rw [g.hN]; exact of_decide_eq_true h0) (by rw [g.sc]; exact visB_inv h1) p1 p2
  | _ => exact ff h
/-- a built-in's name -/
theorem chkG_inv (g : Good c G n X) {s : String} {e : Expr} (h : chkG c s e = true) : ∃ p, e = .Name (Str.ofString s) p ∧ Gl X (Str.ofString s) ∧ plainNm (Str.ofString s) = true := by
  cases e with
  | Name x p =>
    obtain ⟨h1, h2⟩ := an (show (isNm s x && glB c.sc x && plainNm x) = true from h)
    obtain ⟨h0, h1⟩ := an h1
    have e : x = Str.ofString s := of_decide_eq_true h0
    subst e
    exact ⟨p, rfl, by show X.env.scope.names.lookup _ = _; rw [g.sc]; exact of_decide_eq_true h1, h2⟩
  | _ => exact ff h
theorem star_cons {e : Expr} {es : List Expr} {env : Env} (h : notStar e = true) : starEach (e :: es) env = (false, eval e env) :: starEach es env := by
  cases e <;> first | rfl | cases h
theorem chkEs_star : ∀ {as : Es} {es : List Expr} {pos : Pos} {env : Env}, chkEs c as es = true → (backTo pos (starEach es env)).any (·.1) = false
  | .nil, [], _, _, _ => rfl
  | .nil, _ :: _, _, _, h => ff h
  | .cons _ _, [], _, _, h => ff h
  | .cons a as, e :: es, pos, env, h => by
    obtain ⟨h1, h2⟩ := an (show (chkE c a e && notStar e && chkEs c as es) = true from h)
    obtain ⟨h0, h1⟩ := an h1
    rw [star_cons h1]
    show (false || (backTo pos (starEach es env)).any (·.1)) = false
    rw [chkEs_star h2]; rfl
theorem any1 {e : Expr} {pos : Pos} {env : Env} (h : notStar e = true) : (backTo pos (starEach [e] env)).any (·.1) = false := by
  rw [star_cons h]; rfl
theorem few1 {e : Expr} {pos : Pos} {env : Env} (h : notStar e = true) : ((backTo pos (starEach [e] env)).all (fun x => !x.1) && (backToKw pos (keywordEach [] env)).all (fun x => x.1.isSome)
      && decide (([e] : List Expr).length + ([] : List Keyword).length + (if ([] : List Keyword).isEmpty then 0 else 1) < 30)) = true := by
  rw [star_cons h]; rfl
theorem few2 {e d : Expr} {pos : Pos} {env : Env} (h : notStar e = true) (h2 : notStar d = true) : ((backTo pos (starEach [e, d] env)).all (fun x => !x.1) && (backToKw pos (keywordEach [] env)).all (fun x => x.1.isSome)
      && decide (([e, d] : List Expr).length + ([] : List Keyword).length + (if ([] : List Keyword).isEmpty then 0 else 1) < 30)) = true := by
  rw [star_cons h, star_cons h2]; rfl
theorem attr_plain {o : Expr} {m : Str} {env : Env} {w : Sem Value} (h : attrOk o = true) : attributeBase o m env w = w := by
  cases o with
  | Call f as ks p =>
    cases f with
    | Name x q => cases as <;> cases ks <;> first | rfl | cases h
    | _ => rfl
  | _ => rfl
theorem var_attr {i : Nat} {e : Expr} (h : chkVar c i e = true) : attrOk e = true := by cases e <;> first | rfl | cases h
theorem plainIx_of {b : Expr} (h : notSlice b = true) : PlainIx b := by
  cases b <;> first | (intro o i; rfl) | cases h
theorem test_plain {e : Expr} {env : Env} (h : plainTest e = true) : ∀ whole, isTrue e env whole = (do let v ← whole; standAt e.pos; holding [v] (truthy v)) := by
  intro whole
  cases e with
  | UnaryOp o x p => cases o <;> first | rfl | cases h
  | _ => first | rfl | cases h
theorem notSet_inv {e : Expr} {env : Env} (h : notSet e = true) : ∀ x, foldedSetIterable e env x = pure x := by
  intro x
  cases e <;> first | rfl | cases h
theorem noComp_sw {e : Expr} {t : Option Expr} {l : Nat} {env : Env} (h : notComp e = true) : swapsWith e t l env = pure false := by
  cases e <;> first | rfl | cases h
theorem bindTs_tgs {c : Cfg} : ∀ {ts : Tgs} {es : List Expr}, chkTgs c ts es = true → ∀ {ds : List D} {ρ : Rho} {P : Rho → Prop}, bindTs ts ds ρ P → True := fun _ _ _ _ _ => trivial
def tgsLen : Tgs → Nat
  | .nil => 0
  | .cons _ ts => tgsLen ts + 1
theorem chkTgs_len : ∀ {ts : Tgs} {es : List Expr}, chkTgs c ts es = true → es.length = tgsLen ts
  | .nil, [], _ => rfl
  | .nil, _ :: _, h => ff h
  | .cons _ _, [], h => ff h
  | .cons t ts, e :: es, h => by
    obtain ⟨_, h2⟩ := an (show (chkTg c t e && chkTgs c ts es) = true from h)
    show es.length + 1 = tgsLen ts + 1
    rw [chkTgs_len h2]
theorem bindT_some : ∀ {t : Tg} {d : D} {ρ : Rho} {P : Rho → Prop}, bindT t d ρ P → True := fun _ => trivial
theorem bindTs_len2 : ∀ {ts : Tgs} {ds : List D}, (∃ (ρ : Rho) (P : Rho → Prop), bindTs ts ds ρ P) → True := fun _ => trivial
end
end M61

set_option Elab.async false
set_option linter.all false
set_option autoImplicit false
set_option maxRecDepth 100000
/-! M5c: the check is sound. -/
namespace M61
open PySem PySem.Spec PyProof.Rows L2
mutual
theorem bindT_ex : ∀ {t : Tg} {d : D} {ρ : Rho} {P : Rho → Prop}, bindT t d ρ P → ∃ ρ', P ρ'
  | .nm i, d, ρ, P, h => ⟨_, h⟩
  | .tp ts, .tup ds, ρ, P, h => (bindTs_ex (show bindTs ts ds ρ P from h)).1
  | .tp ts, .non, ρ, P, h => False.elim h
  | .tp ts, .bl _, ρ, P, h => False.elim h
  | .tp ts, .int _, ρ, P, h => False.elim h
  | .tp ts, .str _, ρ, P, h => False.elim h
  | .tp ts, .lst ds, ρ, P, h => (bindTs_ex (show bindTs ts ds ρ P from h)).1
  | .tp ts, .ref _, ρ, P, h => False.elim h
  | .tp ts, .scr _, ρ, P, h => False.elim h
  | .tp ts, .dic, ρ, P, h => False.elim h
theorem bindTs_ex : ∀ {ts : Tgs} {ds : List D} {ρ : Rho} {P : Rho → Prop}, bindTs ts ds ρ P → (∃ ρ', P ρ') ∧ ds.length = tgsLen ts
  | .nil, [], ρ, P, h => ⟨⟨ρ, h⟩, rfl⟩
  | .nil, _ :: _, ρ, P, h => False.elim h
  | .cons t ts, [], ρ, P, h => False.elim h
  | .cons t ts, d :: ds, ρ, P, h => by
    obtain ⟨ρ', h'⟩ := bindT_ex (show bindT t d ρ (fun ρ' => bindTs ts ds ρ' P) from h)
    obtain ⟨h1, h2⟩ := bindTs_ex h'
    exact ⟨h1, by rw [List.length_cons, h2]; rfl⟩
end
section
variable {c : Cfg} {G : Ctx} {n : Nat} {X : Cx}
theorem tg_assign {t : Tg} {e : Expr} {es : List Expr} {env : Env} (h : chkTg c t e = true) : assignEach (e :: es) env = (false, assign e env) :: assignEach es env := by
  cases t <;> cases e <;> first | rfl | exact ff h
theorem tgs_assign : ∀ {ts : Tgs} {es : List Expr} {env : Env}, chkTgs c ts es = true → List.findIdx? (fun x => x.1) (assignEach es env) = none ∧ (assignEach es env).length = es.length
  | .nil, [], _, _ => ⟨rfl, rfl⟩
  | .nil, _ :: _, _, h => ff h
  | .cons _ _, [], _, h => ff h
  | .cons t ts, e :: es, env, h => by
    obtain ⟨h1, h2⟩ := an (show (chkTg c t e && chkTgs c ts es) = true from h)
    obtain ⟨i1, i2⟩ := tgs_assign (env := env) h2
    rw [tg_assign h1]
    refine ⟨?_, by rw [List.length_cons, List.length_cons, i2]⟩
    rw [List.findIdx?_cons, i1]; rfl
mutual
theorem okTg (g : Good c G n X) : ∀ (t : Tg) (e : Expr), chkTg c t e = true → PG X e (rg X.K t)
  | .nm i, e, h => by
    cases e with
    | Name x p =>
      obtain ⟨h1, h2⟩ := an (show (decide (c.N[i]? = some x) && locB c x) = true from h)
      exact g_nm (pg_name (by rw [g.hN]; exact g.nd) (by rw [g.hN]; exact of_decide_eq_true h1) (by rw [g.sc]; exact locB_inv h2) (by rw [g.sc]; exact g.fn x h2))
    | _ => exact ff h
  | .tp ts, e, h => by
    cases e with
    | Tuple es k p =>
      have h : chkTgs c ts es = true := h
      exact g_tp (n := tgsLen ts) (fun q => (bindTs_ex q).2) (by rw [← chkTgs_len h]; exact pg_tup g.calm (okTgs g ts es h) (tgs_assign h).2 (tgs_assign h).1) (by rw [← chkTgs_len h]; exact pg_lst g.calm (okTgs g ts es h) (tgs_assign h).2 (tgs_assign h).1)
    | _ => exact ff h
theorem okTgs (g : Good c G n X) : ∀ (ts : Tgs) (es : List Expr), chkTgs c ts es = true → PGs X es (rgs X.K ts)
  | .nil, [], _ => gs_nil
  | .nil, _ :: _, h => ff h
  | .cons _ _, [], h => ff h
  | .cons t ts, e :: es, h => by
    obtain ⟨h1, h2⟩ := an (show (chkTg c t e && chkTgs c ts es) = true from h)
    exact gs_cons (pgs_cons (okTg g t e h1) (okTgs g ts es h2) (by rw [tg_assign h1]; rfl))
end
/-- a built-in function's call -/
theorem blt_call (g : Good c G n X) (f : Blt) {es : Es} {xs : List Expr} {nm : Expr} {pos : Pos} (h1 : chkG c (bltName f) nm = true) (h2 : chkEs c es xs = true) (h3 : xs ≠ []) (ha : PA X xs (rdA X.K (denEs G es))) :
    PE X (.Call nm xs [] pos) (rd X.K fun ρ C P => denEs G es ρ C fun ds ρ1 C1 => bltR C1 f ds fun d => P d ρ1 C1) := by
  obtain ⟨p, rfl, hg, hp⟩ := chkG_inv g h1
  obtain ⟨p1, _, p3⟩ := plainNm_inv hp
  cases xs with
  | nil => exact absurd rfl h3
  | cons e r =>
    have hs : notStar e = true := by
      cases es with
      | nil => exact ff h2
      | cons a as =>
        obtain ⟨q1, _⟩ := an (show (chkE c a e && notStar e && chkEs c as r) = true from h2)
        exact (an q1).2
    have st : ∀ env : Env, starEach (e :: r) env = (false, eval e env) :: starEach r env := fun env => star_cons hs
    have pl : (backTo pos (starEach r X.env)).any (·.1) = false := by
      cases es with
      | nil => exact ff h2
      | cons a as => exact chkEs_star (an (show (chkE c a e && notStar e && chkEs c as r) = true from h2)).2
    have r0 := g.r0
    cases f with
    | len => exact e_blt (pe_callB c_len hg (g.blt _ (by decide)) (by decide +kernel) ha p3 p1 (st _) pl)
    | tuple => exact e_blt (pe_callTy c_tuple hg (g.blt _ (by decide)) (by decide +kernel) ha p3 p1 (st _) pl)
    | sum => exact e_blt (pe_callB (c_sum g.calm) hg (g.blt _ (by decide)) (by decide +kernel) ha p3 p1 (st _) pl)
    | min => exact e_blt (pe_callB (c_min g.calm r0) hg (g.blt _ (by decide)) (by decide +kernel) ha p3 p1 (st _) pl)
    | max => exact e_blt (pe_callB (c_max g.calm r0) hg (g.blt _ (by decide)) (by decide +kernel) ha p3 p1 (st _) pl)
    | min2 => exact e_blt (pe_callB (c_min2 g.calm) hg (g.blt _ (by decide)) (by decide +kernel) ha p3 p1 (st _) pl)
    | max2 => exact e_blt (pe_callB (c_max2 g.calm) hg (g.blt _ (by decide)) (by decide +kernel) ha p3 p1 (st _) pl)
    | abs => exact e_blt (pe_callB c_abs hg (g.blt _ (by decide)) (by decide +kernel) ha p3 p1 (st _) pl)
    | int => exact e_blt (pe_callTy c_int hg (g.blt _ (by decide)) (by decide +kernel) ha p3 p1 (st _) pl)
    | all => exact e_blt (pe_callB (c_all g.calm) hg (g.blt _ (by decide)) (by decide +kernel) ha p3 p1 (st _) pl)
    | repr => exact e_blt (pe_callB (c_repr g.gd r0) hg (g.blt _ (by decide)) (by decide +kernel) ha p3 p1 (st _) pl)
    | str => exact e_blt (pe_callTy c_str hg (g.blt _ (by decide)) (by decide +kernel) ha p3 p1 (st _) pl)
    | mind => exact e_blt (pe_callB (c_mind g.calm r0) hg (g.blt _ (by decide)) (by decide +kernel) ha p3 p1 (st _) pl)
    | maxd => exact e_blt (pe_callB (c_maxd g.calm r0) hg (g.blt _ (by decide)) (by decide +kernel) ha p3 p1 (st _) pl)
    | min2d => exact e_blt (pe_callB (c_min2d g.calm r0) hg (g.blt _ (by decide)) (by decide +kernel) ha p3 p1 (st _) pl)
    | min3 => exact e_blt (pe_callB (c_min3 g.calm) hg (g.blt _ (by decide)) (by decide +kernel) ha p3 p1 (st _) pl)
    | any => exact e_blt (pe_callB (c_any g.calm) hg (g.blt _ (by decide)) (by decide +kernel) ha p3 p1 (st _) pl)
theorem ty_pe (g : Good c G n X) {t : Ty} {e : Expr} (h : chkG c (tyName t) e = true) : PE X e (tC (.ty (tyName t))) ∧ notStar e = true := by
  obtain ⟨p, rfl, hg, hp⟩ := chkG_inv g h
  obtain ⟨p1, _, p3⟩ := plainNm_inv hp
  refine ⟨?_, rfl⟩
  cases t <;> exact pe_bltn hg (g.blt _ (by decide)) (by decide +kernel) rfl p3 p1
end
end M61

set_option Elab.async false
set_option linter.all false
set_option autoImplicit false
set_option maxRecDepth 100000
set_option maxHeartbeats 4000000
/-! M5d: the check is sound: expressions. -/
namespace M61
open PySem PySem.Spec PyProof.Rows L2
section
variable {c : Cfg} {G : Ctx} {n : Nat} {X : Cx}
theorem own_of_map {N : List Str} : ∀ {own : List Nat}, True := fun {_} => trivial
/-- in a comprehension's block -/
theorem Good.blk (g : Good c G n X) {scope : Scope} (hk : scope.kind = .function) (s : Shared) (H : Hp) (C : Addr) (cl : List (Str × Addr)) (fp : List Addr) :
    Good { c with sc := relS scope c.sc, blk := some scope } G n (X.blk s H scope (compEnvC scope cl C X.env) fp) where
  hN := g.hN
  nd := g.nd
  sc := by
    show relS scope X.env.scope = _
    rw [g.sc]
  kind := hk
  calm := g.calm
  fn := fun x h => by
    unfold locB at h
    split at h
    · exact .inr (by assumption)
    · exact .inl h
    · cases h
  xe := rfl
  room := g.room
  gd := g.gd
  blt := g.blt
  fns := g.fns
  con := g.con
  txt := g.txt
  dct := g.dct
/-- swapped: stored at once -/
def SwOk (X : Cx) (c : Cfg) (e : Expr) (t : TE) : Prop := ∀ (i : Nat) (x : Str) (px spos : Pos), c.N[i]? = some x → swB c x px e = true → PS X (.Assign [.Name x px] e spos) (tAsg t (gName i))
theorem swok_weak {e : Expr} {t t' : TE} (h : SwOk X c e t) (k : ∀ σ H Q, t' σ H Q → t σ H Q) : SwOk X c e t' := fun i x px sp h1 h2 => ps_weak (h i x px sp h1 h2) fun D σ H q => k σ H _ q
theorem swok_no {e : Expr} {t : TE} (h : notComp e = true) : SwOk X c e t := fun i x px sp h1 h2 => by
  cases e <;> first | exact ff h2 | exact ff h
theorem sw_any {px sp : Pos} {elt : Expr} {gs : List Comprehension} {scope : Scope} {p : Pos} {y : Str} {env : Env} (hk : env.scope.kind = .function) (hy : env.scope.names.lookup y = some .local) (hl : (px.line == p.line) = true)
    (ha : (scope.names.any fun (n, k) => n == y && (k == .local || k == .cell)) = false) : swapsWith (.ListComp elt gs scope p) (some (.Name y px)) sp.line env = pure true := sw_true hk hy hl ha
theorem pw_of_pt {t : TT} {op : BoolOp} {xs : List Expr} {p : Pos} (h : PT X (.BoolOp op xs p) t) : PW X (.BoolOp op xs p) t := ⟨fun whole pins s σ H Q I q => h.run pins s σ H Q I q⟩
theorem noSl_of {b : Expr} (h : notSlice b = true) : NoSl b := by
  cases b <;> first | (intro o i; rfl) | cases h
theorem chkKV_inv {X : Cx} {p : Pos} : ∀ {kvs : List (String × String)} {ks : List (Option Expr)} {vs : List Expr}, chkKV kvs ks vs = true → PPs X p ks vs (dlkT kvs) ∧ ks.all (·.isSome) = true ∧ ks.length = kvs.length ∧ ks.length = vs.length := by
  intro kvs
  induction kvs with
  | nil =>
    intro ks vs h
    rcases ks with _ | ⟨k, ks⟩ <;> rcases vs with _ | ⟨v, vs⟩ <;> first | exact ff h | exact ⟨pps_nil, rfl, rfl, rfl⟩
  | cons q kvs ih =>
    intro ks vs h
    rcases ks with _ | ⟨k, ks⟩
    · exact ff h
    rcases vs with _ | ⟨v, vs⟩
    · rcases k with _ | k
      · exact ff h
      · cases k with
        | Constant w j p' => cases w <;> exact ff h
        | _ => exact ff h
    rcases k with _ | k
    · exact ff h
    cases k with
    | Constant w j p' =>
      cases w with
      | str x =>
        cases v with
        | Constant w' j' p'' =>
          cases w' with
          | str y =>
            obtain ⟨h, h3⟩ := an (show (isNm q.1 x && isNm q.2 y && chkKV kvs ks vs) = true from h)
            obtain ⟨h1, h2⟩ := an h
            obtain ⟨i1, i2, i3, i4⟩ := ih h3
            have e1 : x = Str.ofString q.1 := of_decide_eq_true h1
            have e2 : y = Str.ofString q.2 := of_decide_eq_true h2
            subst e1 e2
            exact ⟨pps_cons pe_str pe_str i1, by rw [List.all_cons, i2]; rfl, by rw [List.length_cons, List.length_cons, i3], by rw [List.length_cons, List.length_cons, i4]⟩
          | _ => exact ff h
        | _ => exact ff h
      | _ => exact ff h
    | _ => exact ff h
def msOf (G : Ctx) : Es → List ME
  | .nil => []
  | .cons e es => denE G e :: msOf G es
theorem chain_ms (G : Ctx) : ∀ es : Es, chainM (msOf G es) = denEs G es
  | .nil => rfl
  | .cons e es => by
    funext ρ C P
    show denE G e ρ C (fun x ρ1 C1 => chainM (msOf G es) ρ1 C1 fun xs ρ2 C2 => P (x :: xs) ρ2 C2) = denE G e ρ C (fun x ρ1 C1 => denEs G es ρ1 C1 fun xs ρ2 C2 => P (x :: xs) ρ2 C2)
    rw [chain_ms G es]
theorem chkKs_len : ∀ {ks : List String} {keys : List (Option Expr)}, chkKs ks keys = true → keys.length = ks.length ∧ keys.all (·.isSome) = true
  | [], [], _ => ⟨rfl, rfl⟩
  | [], _ :: _, h => ff h
  | _ :: _, [], h => ff h
  | k :: ks, none :: keys, h => ff h
  | k :: ks, some e :: keys, h => by
    cases e with
    | Constant w j p =>
      cases w with
      | str x =>
        obtain ⟨_, h2⟩ := an (show (isNm k x && chkKs ks keys) = true from h)
        obtain ⟨i1, i2⟩ := chkKs_len h2
        exact ⟨by rw [List.length_cons, List.length_cons, i1], by rw [List.all_cons, i2]; rfl⟩
      | _ => exact ff h
    | _ => exact ff h
theorem chkEs_len {c : Cfg} : ∀ {es : Es} {xs : List Expr}, chkEs c es xs = true → (msOf G es).length = xs.length
  | .nil, [], _ => rfl
  | .nil, _ :: _, h => ff h
  | .cons _ _, [], h => ff h
  | .cons a as, e :: es, h => by
    obtain ⟨_, h3⟩ := an (show (chkE c a e && notStar e && chkEs c as es) = true from h)
    show (msOf G as).length + 1 = es.length + 1
    rw [chkEs_len h3]
mutual
theorem okE : ∀ (a : E) (c : Cfg) (X : Cx) (_ : Good c G n X) (e : Expr), chkE c a e = true → PE X e (rd X.K (denE G a))
  | .var i, c, X, g, e, h => e_var (var_pe g h)
  | .mv i, c, X, g, e, h => e_mv (var_pe g h)
  | .non, c, X, g, e, h => by
    cases e with
    | Constant k j p => cases k <;> first | exact ff h | exact e_const pe_non fun F => .non
    | _ => exact ff h
  | .bl b, c, X, g, e, h => by
    cases e with
    | Constant k j p =>
      cases k with
      | bool b' =>
        have eb : b = b' := eq_of_beq h
        subst eb
        exact e_const pe_bl fun F => .bl b
      | _ => exact ff h
    | _ => exact ff h
  | .int i, c, X, g, e, h => by
    cases e with
    | Constant k j p =>
      cases k with
      | int b' =>
        have eb : i = b' := of_decide_eq_true h
        subst eb
        exact e_const pe_int fun F => .int i
      | _ => exact ff h
    | _ => exact ff h
  | .str s, c, X, g, e, h => by
    cases e with
    | Constant k j p =>
      cases k with
      | str b' =>
        have eb : b' = Str.ofString s := of_decide_eq_true h
        subst eb
        exact e_const pe_str fun F => .str _
      | _ => exact ff h
    | _ => exact ff h
  | .con x i, c, X, g, e, h => by
    cases e with
    | Name y p =>
      obtain ⟨h, h4⟩ := an (show (isNm x y && glB c.sc y && plainNm y && c.cons.contains (x, i)) = true from h)
      obtain ⟨h, h3⟩ := an h
      obtain ⟨h1, h2⟩ := an h
      have e : y = Str.ofString x := of_decide_eq_true h1
      subst e
      obtain ⟨u, hm, r⟩ := g.con x i h4
      exact e_const (pe_glob (by show X.env.scope.names.lookup _ = _; rw [g.sc]; exact of_decide_eq_true h2) hm r (plainNm_inv h3).1) fun F => .int i
    | _ => exact ff h
  | .cns x i, c, X, g, e, h => by
    cases e with
    | Name y p =>
      obtain ⟨h, h4⟩ := an (show (isNm x y && glB c.sc y && plainNm y && c.txts.contains (x, i)) = true from h)
      obtain ⟨h, h3⟩ := an h
      obtain ⟨h1, h2⟩ := an h
      have e : y = Str.ofString x := of_decide_eq_true h1
      subst e
      obtain ⟨u, hm, r⟩ := g.txt x i h4
      exact e_const (pe_glob (by show X.env.scope.names.lookup _ = _; rw [g.sc]; exact of_decide_eq_true h2) hm r (plainNm_inv h3).1) fun F => .str _
    | _ => exact ff h
  | .bin o a b, c, X, g, e, h => by
    cases e with
    | BinOp l op r p =>
      obtain ⟨h, h3⟩ := an (show (decide (op = popOf o) && chkE c a l && chkE c b r) = true from h)
      obtain ⟨h1, h2⟩ := an h
      have e : op = popOf o := of_decide_eq_true h1
      subst e
      exact e_op2 (pe_op (s_bin o) (okE a _ _ g l h2) (okE b _ _ g r h3))
    | _ => exact ff h
  | .neg a, c, X, g, e, h => by
    cases e with
    | UnaryOp op x p =>
      cases op with
      | USub => exact e_neg (pe_un un_neg (okE a _ _ g x h))
      | _ => exact ff h
    | _ => exact ff h
  | .cmp o a b, c, X, g, e, h => by
    cases e with
    | Compare l ops rs p =>
      cases ops with
      | nil => exact ff h
      | cons op ops =>
        cases ops with
        | cons _ _ => exact ff h
        | nil =>
          cases rs with
          | nil => exact ff h
          | cons r rs =>
            cases rs with
            | cons _ _ => exact ff h
            | nil =>
              obtain ⟨h, h4⟩ := an (show (decide (op = copOf o) && chkE c a l && chkE c b r && !behindInMarks op r) = true from h)
              obtain ⟨h, h3⟩ := an h
              obtain ⟨h1, h2⟩ := an h
              have e : op = copOf o := of_decide_eq_true h1
              subst e
              exact e_op2 (r := fun d e P => cmpR o d e fun b => P (.bl b)) (pe_cmpR (s_cmp g.r0 o) (okE a _ _ g l h2) (okE b _ _ g r h3) (by simpa using h4))
    | _ => exact ff h
  | .chn o o' a b d, c, X, g, e, h => by
    cases e with
    | Compare l ops rs p =>
      cases ops with
      | nil => exact ff h
      | cons op ops =>
        cases ops with
        | nil => cases rs with
          | nil => exact ff h
          | cons _ rs => cases rs <;> exact ff h
        | cons op' ops =>
          cases ops with
          | cons _ _ => exact ff h
          | nil =>
            cases rs with
            | nil => exact ff h
            | cons m rs =>
              cases rs with
              | nil => exact ff h
              | cons r rs =>
                cases rs with
                | cons _ _ => exact ff h
                | nil =>
                  obtain ⟨h, h6⟩ := an (show (decide (op = copOf o) && decide (op' = copOf o') && chkE c a l && chkE c b m && chkE c d r && !lastMarks [op, op'] [m, r]) = true from h)
                  obtain ⟨h, h5⟩ := an h
                  obtain ⟨h, h4⟩ := an h
                  obtain ⟨h, h3⟩ := an h
                  obtain ⟨h1, h2⟩ := an h
                  have e : op = copOf o := of_decide_eq_true h1
                  have e' : op' = copOf o' := of_decide_eq_true h2
                  subst e e'
                  exact e_chn (pe_chain (s_cmp g.r0 o) (s_cmp g.r0 o') (okE a _ _ g l h3) (okE b _ _ g m h4) (okE d _ _ g r h5) (by simpa using h6))
    | _ => exact ff h
  | .chn3 o o' o'' a b d f, c, X, g, e, h => by
    cases e with
    | Compare l ops rs p =>
      rcases ops with _ | ⟨op, _ | ⟨op', _ | ⟨op'', _ | ⟨_, _⟩⟩⟩⟩ <;> rcases rs with _ | ⟨m, _ | ⟨r, _ | ⟨q, _ | ⟨_, _⟩⟩⟩⟩ <;> first | exact ff h | skip
      obtain ⟨h, h8⟩ := an (show (decide (op = copOf o) && decide (op' = copOf o') && decide (op'' = copOf o'') && chkE c a l && chkE c b m && chkE c d r && chkE c f q && !lastMarks [op, op', op''] [m, r, q]) = true from h)
      obtain ⟨h, h7⟩ := an h
      obtain ⟨h, h6⟩ := an h
      obtain ⟨h, h5⟩ := an h
      obtain ⟨h, h4⟩ := an h
      obtain ⟨h, h3⟩ := an h
      obtain ⟨h1, h2⟩ := an h
      have e : op = copOf o := of_decide_eq_true h1
      have e' : op' = copOf o' := of_decide_eq_true h2
      have e'' : op'' = copOf o'' := of_decide_eq_true h3
      subst e e' e''
      exact e_chn3 (pe_chain3 (s_cmp g.r0 o) (s_cmp g.r0 o') (s_cmp g.r0 o'') (okE a _ _ g l h4) (okE b _ _ g m h5) (okE d _ _ g r h6) (okE f _ _ g q h7) (by simpa using h8))
    | _ => exact ff h
  | .dlk kvs a, c, X, g, e, h => by
    cases e with
    | Subscript v s p =>
      cases v with
      | Dict ks vs p2 =>
        obtain ⟨h, h5⟩ := an (show (chkKV kvs ks vs && chkE c a s && notSlice s && decide (kvs ≠ []) && decide (kvs.length ≤ 15)) = true from h)
        obtain ⟨h, h4⟩ := an h
        obtain ⟨h, h3⟩ := an h
        obtain ⟨h1, h2⟩ := an h
        obtain ⟨k1, k2, k3, k4⟩ := chkKV_inv (X := X) (p := p2) h1
        have hu : X.A.units + 1 < cLine := by have := g.room.units; omega
        have hne : ks ≠ [] := fun e => by
          rw [e] at k3
          exact (of_decide_eq_true h4 : kvs ≠ []) (List.length_eq_zero_iff.mp k3.symm)
        exact e_dlk (of_decide_eq_true h5) (pe_dget hu (pe_disp k1 k2 k4 hne (by rw [k3]; exact of_decide_eq_true h5)) (okE a _ _ g s h2) (noSl_of h3))
      | _ => exact ff h
    | _ => exact ff h
  | .celd ks es, c, X, g, e, h => by
    cases e with
    | Dict keys vals p =>
      obtain ⟨h, h5⟩ := an (show (chkKs ks keys && chkEs c es vals && decide (ks ≠ []) && decide (ks.length ≤ 15) && decide (keys.length = vals.length)) = true from h)
      obtain ⟨h, h4⟩ := an h
      obtain ⟨h, h3⟩ := an h
      obtain ⟨h1, h2⟩ := an h
      obtain ⟨l1, l2⟩ := chkKs_len h1
      have hne : keys ≠ [] := fun e => by
        rw [e] at l1
        exact (of_decide_eq_true h3 : ks ≠ []) (List.length_eq_zero_iff.mp l1.symm)
      have hl : keys.length = vals.length := of_decide_eq_true h5
      have e1 := okPs es c X g ks keys vals p h1 h2 hl
      have := e_celd (ms := msOf G es) (of_decide_eq_true h4) (by rw [chkEs_len h2, ← hl, l1]) (pe_disp e1 l2 hl hne (by rw [l1]; exact of_decide_eq_true h4))
      rw [chain_ms] at this
      exact this
    | _ => exact ff h
  | .edic, c, X, g, e, h => by
    cases e with
    | Dict keys vals p =>
      cases keys with
      | nil =>
        cases vals with
        | nil => exact e_edic pe_dnewT
        | cons _ _ => exact ff h
      | cons _ _ => exact ff h
    | _ => exact ff h
  | .ndic k a, c, X, g, e, h => by
    cases e with
    | Dict keys vals p =>
      cases keys with
      | nil => cases vals <;> exact ff h
      | cons kk keys =>
        cases kk with
        | none => exact ff h
        | some kk =>
          cases keys with
          | cons _ _ => cases kk <;> exact ff h
          | nil =>
            cases kk with
            | Constant w j p2 =>
              cases vals with
              | nil => exact ff h
              | cons v vals =>
                cases vals with
                | cons _ _ => exact ff h
                | nil =>
                  obtain ⟨h1, h2⟩ := an (show (keyB k w && chkE c a v) = true from h)
                  cases k with
                  | inl i =>
                    cases w with
                    | int i' =>
                      have e1 : i = i' := of_decide_eq_true h1
                      subst e1
                      exact e_ndic (k := Sum.inl i) (pe_disp (pps_cons pe_int (okE a _ _ g v h2) pps_nil) rfl rfl (by simp) (by show 1 ≤ 15; decide))
                    | _ => exact ff h1
                  | inr s =>
                    cases w with
                    | str x =>
                      have e1 : x = Str.ofString s := of_decide_eq_true h1
                      subst e1
                      exact e_ndic (k := Sum.inr (Str.ofString s)) (pe_disp (pps_cons pe_str (okE a _ _ g v h2) pps_nil) rfl rfl (by simp) (by show 1 ≤ 15; decide))
                    | _ => exact ff h1
            | _ => exact ff h
    | _ => exact ff h
  | .dix a k, c, X, g, e, h => by
    cases e with
    | Subscript v s p =>
      cases s with
      | Constant w j p2 =>
        cases w with
        | str x =>
          obtain ⟨h1, h2⟩ := an (show (chkE c a v && isNm k x) = true from h)
          have e1 : x = Str.ofString k := of_decide_eq_true h2
          subst e1
          have hu : X.A.units + 1 < cLine := by have := g.room.units; omega
          exact e_dix (pe_dget hu (okE a _ _ g v h1) pe_str (noSl_of rfl))
        | _ => exact ff h
      | _ => exact ff h
    | _ => exact ff h
  | .and a b, c, X, g, e, h => by
    cases e with
    | BoolOp op xs p =>
      cases op with
      | Or => cases xs with
        | nil => exact ff h
        | cons _ xs => cases xs with
          | nil => exact ff h
          | cons _ xs => cases xs <;> exact ff h
      | And =>
        cases xs with
        | nil => exact ff h
        | cons x xs =>
          cases xs with
          | nil => exact ff h
          | cons y xs =>
            cases xs with
            | nil =>
              obtain ⟨h1, h2⟩ := an (show (chkE c a x && chkE c b y) = true from h)
              exact e_and (pe_and (okE a _ _ g x h1) (pe_one (okE b _ _ g y h2)))
            | cons z r =>
              obtain ⟨h1, h2⟩ := an (show (chkE c a x && chkE c b (.BoolOp .And (y :: z :: r) p)) = true from h)
              exact e_and (pe_and (okE a _ _ g x h1) (okE b _ _ g _ h2))
    | _ => exact ff h
  | .or a b, c, X, g, e, h => by
    cases e with
    | BoolOp op xs p =>
      cases op with
      | And => cases xs with
        | nil => exact ff h
        | cons _ xs => cases xs with
          | nil => exact ff h
          | cons _ xs => cases xs <;> exact ff h
      | Or =>
        cases xs with
        | nil => exact ff h
        | cons x xs =>
          cases xs with
          | nil => exact ff h
          | cons y xs =>
            cases xs with
            | nil =>
              obtain ⟨h1, h2⟩ := an (show (chkE c a x && chkE c b y) = true from h)
              exact e_or (pe_or (okE a _ _ g x h1) (pe_one (okE b _ _ g y h2)))
            | cons z r =>
              obtain ⟨h1, h2⟩ := an (show (chkE c a x && chkE c b (.BoolOp .Or (y :: z :: r) p)) = true from h)
              exact e_or (pe_or (okE a _ _ g x h1) (okE b _ _ g _ h2))
    | _ => exact ff h
  | .not a, c, X, g, e, h => by
    cases e with
    | UnaryOp op x p =>
      cases op with
      | Not => exact e_not (pe_not (okE a _ _ g x h))
      | _ => exact ff h
    | _ => exact ff h
  | .ife t a b, c, X, g, e, h => by
    cases e with
    | IfExp q x y p =>
      obtain ⟨h, h3⟩ := an (show (chkT c t q && chkE c a x && chkE c b y) = true from h)
      obtain ⟨h1, h2⟩ := an h
      exact e_ife (pe_ifExp (okT t _ _ g q h1) (okE a _ _ g x h2) (okE b _ _ g y h3))
    | _ => exact ff h
  | .tup es, c, X, g, e, h => by
    cases e with
    | Tuple xs k p => exact e_tup (pe_tup (okEs es _ _ g xs h))
    | _ => exact ff h
  | .frz l, c, X, g, e, h => e_frz (okL l _ _ g e h).1
  | .cel l, c, X, g, e, h => e_cel (okL l _ _ g e h).1
  | .ix a b, c, X, g, e, h => by
    cases e with
    | Subscript v s p =>
      obtain ⟨h, h3⟩ := an (show (chkE c a v && chkE c b s && notSlice s) = true from h)
      obtain ⟨h1, h2⟩ := an h
      exact e_ix (pe_ix ix_or (okE a _ _ g v h1) (okE b _ _ g s h2) (plainIx_of h3))
    | _ => exact ff h
  | .sl a lo hi, c, X, g, e, h => by
    cases e with
    | Subscript v s p =>
      cases s with
      | Slice l u st p2 =>
        cases st with
        | none =>
          obtain ⟨h, h3⟩ := an (show (chkE c a v && chkO c lo l && chkO c hi u) = true from h)
          obtain ⟨h1, h2⟩ := an h
          exact e_sl (pe_slice s_sl (okE a _ _ g v h1) (okO lo _ _ g l h2) (okO hi _ _ g u h3))
        | some _ => exact ff h
      | _ => exact ff h
    | _ => exact ff h
  | .rev a, c, X, g, e, h => by
    cases e with
    | Subscript v s p =>
      cases s with
      | Slice l u st p2 =>
        cases l with
        | some _ => exact ff h
        | none =>
          cases u with
          | some _ => exact ff h
          | none =>
            cases st with
            | none => exact ff h
            | some q =>
              cases q with
              | UnaryOp op x p3 =>
                cases op with
                | USub =>
                  cases x with
                  | Constant k j p4 =>
                    cases k with
                    | int i =>
                      obtain ⟨h1, h2⟩ := an (show (chkE c a v && decide (i = 1)) = true from h)
                      have e : i = 1 := of_decide_eq_true h2
                      subst e
                      exact e_rev (pe_revA (okE a _ _ g v h1))
                    | _ => exact ff h
                  | _ => exact ff h
                | _ => exact ff h
              | _ => exact ff h
      | _ => exact ff h
    | _ => exact ff h
  | .call f es, c, X, g, e, h => by
    cases e with
    | Call fn xs ks p =>
      cases fn with
      | Name x q =>
        cases ks with
        | cons _ _ => exact ff h
        | nil =>
          obtain ⟨h, h5⟩ := an (show (isNm f x && glB c.sc x && plainNm x && c.sigs.contains (f, xs.length) && chkEs c es xs) = true from h)
          obtain ⟨h, h4⟩ := an h
          obtain ⟨h, h3⟩ := an h
          obtain ⟨h1, h2⟩ := an h
          have e : x = Str.ofString f := of_decide_eq_true h1
          subst e
          obtain ⟨fa, fd, ps, hm, kp, hb, F⟩ := g.fns f _ h4
          have hg : Gl X (Str.ofString f) := by show X.env.scope.names.lookup _ = _; rw [g.sc]; exact of_decide_eq_true h2
          have ha := okEs es _ _ g xs h5
          cases xs with
          | nil =>
            cases es with
            | nil => exact e_call (E := E0) (ma := fun ρ C P => P [] ρ C) (pe_weak (pe_callG0 (E := E0) F g.gd g.room hg hm kp hb .nil pass0 (plainNm_inv h3).1) fun σ H Q q => by
                obtain ⟨B, F, ρ, C, P, R, m, k⟩ := q
                exact k [] ρ C F [] H (Same.refl _) R .nil m)
            | cons _ _ => exact ff h5
          | cons e r =>
            have hs : notStar e = true := by
              cases es with
              | nil => exact ff h5
              | cons a as => exact (an (an (show (chkE c a e && notStar e && chkEs c as r) = true from h5)).1).2
            have pl : (backTo p (starEach r X.env)).any (·.1) = false := by
              cases es with
              | nil => exact ff h5
              | cons a as => exact chkEs_star (an (show (chkE c a e && notStar e && chkEs c as r) = true from h5)).2
            exact e_call (E := E0) (pe_callG F g.gd g.room hg hm kp hb .nil pass0 ha (plainNm_inv h3).1 (star_cons hs) pl)
      | _ => exact ff h
    | _ => exact ff h
  | .blt f es, c, X, g, e, h => by
    cases e with
    | Call fn xs ks p =>
      cases ks with
      | cons _ _ => exact ff h
      | nil =>
        obtain ⟨h, h3⟩ := an (show (chkG c (bltName f) fn && chkEs c es xs && decide (xs ≠ [])) = true from h)
        obtain ⟨h1, h2⟩ := an h
        exact blt_call g f h1 h2 (of_decide_eq_true h3) (okEs es _ _ g xs h2)
    | _ => exact ff h
  | .isi a t, c, X, g, e, h => by
    cases e with
    | Call fn xs ks p =>
      cases xs with
      | nil => exact ff h
      | cons x xs =>
        cases xs with
        | nil => exact ff h
        | cons y xs =>
          cases xs with
          | cons _ _ => exact ff h
          | nil =>
            cases ks with
            | cons _ _ => exact ff h
            | nil =>
              obtain ⟨h, h4⟩ := an (show (chkG c "isinstance" fn && chkE c a x && notStar x && chkG c (tyName t) y) = true from h)
              obtain ⟨h, h3⟩ := an h
              obtain ⟨h1, h2⟩ := an h
              obtain ⟨q, rfl, hg, hp⟩ := chkG_inv g h1
              obtain ⟨p1, _, p3⟩ := plainNm_inv hp
              obtain ⟨hy, sy⟩ := ty_pe g h4
              exact e_isi (pe_callB (c_isi t) hg (g.blt _ (by decide)) (by decide +kernel) (pa_cons (okE a _ _ g x h2) (pa_cons hy pa_nil (star_cons sy)) (star_cons h3)) p3 p1 (star_cons h3) (any1 sy))
    | _ => exact ff h
  | .oix i b, c, X, g, e, h => by
    cases e with
    | Subscript v s p =>
      obtain ⟨h, h3⟩ := an (show (chkVar c i v && chkE c b s && notSlice s) = true from h)
      obtain ⟨h1, h2⟩ := an h
      exact e_oix (pe_ix ix_list (var_pe g h1) (okE b _ _ g s h2) (plainIx_of h3))
    | _ => exact ff h
  | .olen i, c, X, g, e, h => by
    cases e with
    | Call fn xs ks p =>
      cases xs with
      | nil => exact ff h
      | cons x xs =>
        cases xs with
        | cons _ _ => exact ff h
        | nil =>
          cases ks with
          | cons _ _ => exact ff h
          | nil =>
            obtain ⟨h1, h2⟩ := an (show (chkG c "len" fn && chkVar c i x) = true from h)
            obtain ⟨q, rfl, hg, hp⟩ := chkG_inv g h1
            obtain ⟨p1, _, p3⟩ := plainNm_inv hp
            have hs : notStar x = true := by cases x <;> first | rfl | exact ff h2
            exact e_olen (pe_callB call_len_seq hg (g.blt _ (by decide)) (by decide +kernel) (pa_cons (var_pe g h2) pa_nil (star_cons hs)) p3 p1 (star_cons hs) rfl)
    | _ => exact ff h
  | .one i, c, X, g, e, h => by
    cases e with
    | Compare l ops rs p =>
      cases ops with
      | nil => exact ff h
      | cons op ops =>
        cases rs with
        | nil => cases ops <;> cases op <;> exact ff h
        | cons r rs =>
          cases ops with
          | cons _ _ => cases op <;> exact ff h
          | nil =>
            cases op <;> first | (cases rs <;> cases r <;> exact ff h) | skip
            cases rs with
            | cons _ _ => cases r <;> first | exact ff h | (rename_i es _; cases es <;> exact ff h)
            | nil =>
              cases r with
              | List es q =>
                cases es with
                | nil => exact e_one (pe_cmpR (op_neD g.r0.units) (var_pe g h) (pe_lst pa_nil) rfl)
                | cons _ _ => exact ff h
              | _ => exact ff h
    | _ => exact ff h
  | .oem i, c, X, g, e, h => by
    cases e with
    | Compare l ops rs p =>
      cases ops with
      | nil => exact ff h
      | cons op ops =>
        cases rs with
        | nil => cases ops <;> cases op <;> exact ff h
        | cons r rs =>
          cases ops with
          | cons _ _ => cases op <;> exact ff h
          | nil =>
            cases op <;> first | (cases rs <;> cases r <;> exact ff h) | skip
            cases rs with
            | cons _ _ => cases r <;> first | exact ff h | (rename_i es _; cases es <;> exact ff h)
            | nil =>
              cases r with
              | List es q =>
                cases es with
                | nil => exact e_oem (pe_cmpR (op_eqD g.r0.units) (var_pe g h) (pe_lst pa_nil) rfl)
                | cons _ _ => exact ff h
              | _ => exact ff h
    | _ => exact ff h
  | .lne a, c, X, g, e, h => by
    cases e with
    | Compare l ops rs p =>
      cases ops with
      | nil => exact ff h
      | cons op ops =>
        cases rs with
        | nil => cases ops <;> cases op <;> exact ff h
        | cons r rs =>
          cases ops with
          | cons _ _ => cases op <;> exact ff h
          | nil =>
            cases op <;> first | (cases rs <;> cases r <;> exact ff h) | skip
            cases rs with
            | cons _ _ => cases r <;> first | exact ff h | (rename_i es _; cases es <;> exact ff h)
            | nil =>
              cases r with
              | List es q =>
                cases es with
                | nil => exact e_lse (f := (!·)) (pe_cmpR (op_lsn (by have := g.r0.units; omega)) (okE a c X g l h) (pe_lst pa_nil) rfl)
                | cons _ _ => exact ff h
              | _ => exact ff h
    | _ => exact ff h
  | .leq a, c, X, g, e, h => by
    cases e with
    | Compare l ops rs p =>
      cases ops with
      | nil => exact ff h
      | cons op ops =>
        cases rs with
        | nil => cases ops <;> cases op <;> exact ff h
        | cons r rs =>
          cases ops with
          | cons _ _ => cases op <;> exact ff h
          | nil =>
            cases op <;> first | (cases rs <;> cases r <;> exact ff h) | skip
            cases rs with
            | cons _ _ => cases r <;> first | exact ff h | (rename_i es _; cases es <;> exact ff h)
            | nil =>
              cases r with
              | List es q =>
                cases es with
                | nil => exact e_lse (f := id) (pe_cmpR (op_lse (by have := g.r0.units; omega)) (okE a c X g l h) (pe_lst pa_nil) rfl)
                | cons _ _ => exact ff h
              | _ => exact ff h
    | _ => exact ff h
  | .cne a, c, X, g, e, h => by
    cases e with
    | Compare l ops rs p =>
      cases ops with
      | nil => exact ff h
      | cons op ops =>
        cases rs with
        | nil => cases ops <;> cases op <;> exact ff h
        | cons r rs =>
          cases ops with
          | cons _ _ => cases op <;> exact ff h
          | nil =>
            cases op <;> first | (cases rs <;> cases r <;> exact ff h) | skip
            cases rs with
            | cons _ _ => cases r <;> first | exact ff h | (rename_i es _; cases es <;> exact ff h)
            | nil =>
              cases r with
              | List es q =>
                cases es with
                | nil => exact e_cne (pe_cmpR (op_neD g.r0.units) (okE a c X g l h) (pe_lst pa_nil) rfl)
                | cons _ _ => exact ff h
              | _ => exact ff h
    | _ => exact ff h
  | .ceq a, c, X, g, e, h => by
    cases e with
    | Compare l ops rs p =>
      cases ops with
      | nil => exact ff h
      | cons op ops =>
        cases rs with
        | nil => cases ops <;> cases op <;> exact ff h
        | cons r rs =>
          cases ops with
          | cons _ _ => cases op <;> exact ff h
          | nil =>
            cases op <;> first | (cases rs <;> cases r <;> exact ff h) | skip
            cases rs with
            | cons _ _ => cases r <;> first | exact ff h | (rename_i es _; cases es <;> exact ff h)
            | nil =>
              cases r with
              | List es q =>
                cases es with
                | nil => exact e_ceq (pe_cmpR (op_eqD g.r0.units) (okE a c X g l h) (pe_lst pa_nil) rfl)
                | cons _ _ => exact ff h
              | _ => exact ff h
    | _ => exact ff h
  | .opop i, c, X, g, e, h => by
    cases e with
    | Call fn xs ks p =>
      cases fn with
      | Attribute v m ap =>
        cases xs with
        | cons _ _ => cases ks <;> exact ff h
        | nil =>
          cases ks with
          | cons _ _ => exact ff h
          | nil =>
            obtain ⟨h, h3⟩ := an (show (chkVar c i v && isNm "pop" m && (ap.endLine == p.line)) = true from h)
            obtain ⟨h1, h2⟩ := an h
            have e : m = Str.ofString "pop" := of_decide_eq_true h2
            subst e
            exact e_opop (pe_bm0 PySem.F.plainAttrs_list PySem.F.slot_list_pop PySem.F.type_list_pop mt_pop (var_pe g h1) (attr_plain (var_attr h1)) h3)
      | _ => cases xs <;> cases ks <;> exact ff h
    | _ => exact ff h
  | .cpop o, c, X, g, e, h => by
    cases e with
    | Call fn xs ks p =>
      cases fn with
      | Attribute v m ap =>
        cases xs with
        | cons _ _ => cases ks <;> exact ff h
        | nil =>
          cases ks with
          | cons _ _ => exact ff h
          | nil =>
            obtain ⟨h, h4⟩ := an (show (chkE c o v && attrOk v && isNm "pop" m && (ap.endLine == p.line)) = true from h)
            obtain ⟨h, h3⟩ := an h
            obtain ⟨h1, h2⟩ := an h
            have e : m = Str.ofString "pop" := of_decide_eq_true h3
            subst e
            exact e_cpop (pe_bm0 PySem.F.plainAttrs_list PySem.F.slot_list_pop PySem.F.type_list_pop mt_pop (okE o _ _ g v h1) (attr_plain h2) h4)
      | _ => cases xs <;> cases ks <;> exact ff h
    | _ => exact ff h
  | .cpopA o k, c, X, g, e, h => by
    cases e with
    | Call fn xs ks p =>
      cases fn with
      | Attribute v m ap =>
        cases xs with
        | nil => cases ks <;> exact ff h
        | cons x xs =>
          cases xs with
          | cons _ _ => cases ks <;> exact ff h
          | nil =>
            cases ks with
            | cons _ _ => exact ff h
            | nil =>
              obtain ⟨h, h6⟩ := an (show (chkE c o v && attrOk v && isNm "pop" m && (ap.endLine == p.line) && chkE c k x && notStar x) = true from h)
              obtain ⟨h, h5⟩ := an h
              obtain ⟨h, h4⟩ := an h
              obtain ⟨h, h3⟩ := an h
              obtain ⟨h1, h2⟩ := an h
              have e : m = Str.ofString "pop" := of_decide_eq_true h3
              subst e
              exact e_cpopA (pe_bm PySem.F.plainAttrs_list PySem.F.slot_list_pop PySem.F.type_list_pop mt_popAt (okE o _ _ g v h1) (pa_cons (okE k _ _ g x h5) pa_nil (star_cons h6)) (attr_plain h2) (few1 h6) h4 (star_cons h6) rfl)
      | _ => cases xs <;> cases ks <;> first | exact ff h | (rename_i q _; cases q <;> exact ff h)
    | _ => exact ff h
  | .indx o k, c, X, g, e, h => by
    cases e with
    | Call fn xs ks p =>
      cases fn with
      | Attribute v m ap =>
        cases xs with
        | nil => cases ks <;> exact ff h
        | cons x xs =>
          cases xs with
          | cons _ _ => cases ks <;> exact ff h
          | nil =>
            cases ks with
            | cons _ _ => exact ff h
            | nil =>
              obtain ⟨h, h6⟩ := an (show (chkE c o v && attrOk v && isNm "index" m && (ap.endLine == p.line) && chkE c k x && notStar x) = true from h)
              obtain ⟨h, h5⟩ := an h
              obtain ⟨h, h4⟩ := an h
              obtain ⟨h, h3⟩ := an h
              obtain ⟨h1, h2⟩ := an h
              have e : m = Str.ofString "index" := of_decide_eq_true h3
              subst e
              exact e_indx g.r0 (pe_bm PySem.F.plainAttrs_list PySem.F.slot_list_index PySem.F.type_list_index (mt_indexD (by have := g.r0.un; omega)) (okE o _ _ g v h1) (pa_cons (okE k _ _ g x h5) pa_nil (star_cons h6)) (attr_plain h2) (few1 h6) h4 (star_cons h6) rfl)
      | _ => cases xs <;> cases ks <;> first | exact ff h | (rename_i q _; cases q <;> exact ff h)
    | _ => exact ff h
  | .mxo kk a b, c, X, g, e, h => by
    cases e with
    | Call fn xs ks p =>
      cases xs with
      | nil => exact ff h
      | cons x xs =>
        cases xs with
        | cons _ _ => exact ff h
        | nil =>
          cases ks with
          | nil => exact ff h
          | cons kw ks =>
            obtain ⟨nm, v, kp⟩ := kw
            cases ks with
            | cons _ _ => cases nm <;> exact ff h
            | nil =>
              cases nm with
              | none => exact ff h
              | some nm =>
                obtain ⟨h, h5⟩ := an (show (chkG c (if kk = true then "max" else "min") fn && chkE c a x && notStar x && isNm "default" nm && chkE c b v) = true from h)
                obtain ⟨h, h4⟩ := an h
                obtain ⟨h, h3⟩ := an h
                obtain ⟨h1, h2⟩ := an h
                have e : nm = Str.ofString "default" := of_decide_eq_true h4
                subst e
                obtain ⟨q, rfl, hg, hp⟩ := chkG_inv g h1
                obtain ⟨p1, _, p3⟩ := plainNm_inv hp
                cases kk with
                | true =>
                  refine pe_weak (e_mxo (pe_callBK (c_maxo g.calm g.r0) hg (g.blt _ (by decide)) (by decide +kernel) (pa_cons (okE a _ _ g x h2) pa_nil (star_cons h3)) (pk_cons (okE b _ _ g v h5) pk_nil) p3 p1 (by rw [star_cons h3]; rfl) (any1 h3))) fun σ H Q q => ?_
                  obtain ⟨B, F, ρ, C, P, R, m, k⟩ := q
                  exact ⟨B, F, ρ, C, P, R, m, k⟩
                | false =>
                  refine pe_weak (e_mxo (pe_callBK (c_mino g.calm g.r0) hg (g.blt _ (by decide)) (by decide +kernel) (pa_cons (okE a _ _ g x h2) pa_nil (star_cons h3)) (pk_cons (okE b _ _ g v h5) pk_nil) p3 p1 (by rw [star_cons h3]; rfl) (any1 h3))) fun σ H Q q => ?_
                  obtain ⟨B, F, ρ, C, P, R, m, k⟩ := q
                  exact ⟨B, F, ρ, C, P, R, m, k⟩
    | _ => exact ff h
  | .gget x kvs a, c, X, g, e, h => by
    cases e with
    | Call fn xs ks p =>
      cases fn with
      | Attribute v m ap =>
        cases v with
        | Name y yp =>
          cases xs with
          | nil => cases ks <;> exact ff h
          | cons e xs =>
            cases xs with
            | cons _ _ => cases ks <;> exact ff h
            | nil =>
              cases ks with
              | cons _ _ => exact ff h
              | nil =>
                obtain ⟨h, h8⟩ := an (show (isNm x y && glB c.sc y && plainNm y && c.dcts.contains (x, kvs) && isNm "get" m && (ap.endLine == p.line) && chkE c a e && notStar e) = true from h)
                obtain ⟨h, h7⟩ := an h
                obtain ⟨h, h6⟩ := an h
                obtain ⟨h, h5⟩ := an h
                obtain ⟨h, h4⟩ := an h
                obtain ⟨h, h3⟩ := an h
                obtain ⟨h1, h2⟩ := an h
                have e1 : y = Str.ofString x := of_decide_eq_true h1
                have e2 : m = Str.ofString "get" := of_decide_eq_true h5
                subst e1 e2
                obtain ⟨u, hm, d⟩ := g.dct x kvs h4
                exact e_gget (pe_gget (pe_glob (by show X.env.scope.names.lookup _ = _; rw [g.sc]; exact of_decide_eq_true h2) hm rfl (plainNm_inv h3).1) d (okE a _ _ g e h7) ⟨rfl, few1 h8, h6, by rw [star_cons h8]; rfl⟩)
        | _ => cases xs <;> cases ks <;> first | exact ff h | (rename_i q _; cases q <;> exact ff h)
      | _ => cases xs <;> cases ks <;> first | exact ff h | (rename_i q _; cases q <;> exact ff h)
    | _ => exact ff h
  | .upr a, c, X, g, e, h => by
    cases e with
    | Call fn xs ks p =>
      cases fn with
      | Attribute v m ap =>
        cases xs with
        | cons _ _ => cases ks <;> exact ff h
        | nil =>
          cases ks with
          | cons _ _ => exact ff h
          | nil =>
            obtain ⟨h, h4⟩ := an (show (chkE c a v && attrOk v && isNm "upper" m && (ap.endLine == p.line)) = true from h)
            obtain ⟨h, h3⟩ := an h
            obtain ⟨h1, h2⟩ := an h
            have e : m = Str.ofString "upper" := of_decide_eq_true h3
            subst e
            exact e_upr (pe_bm0 PySem.F.plainAttrs_str PySem.F.slot_str_upper PySem.F.type_str_upper mt_upper (okE a _ _ g v h1) (attr_plain h2) h4)
      | _ => cases xs <;> cases ks <;> exact ff h
    | _ => exact ff h
  | .orv a b, c, X, g, e, h => by
    cases e with
    | BoolOp op xs p =>
      cases op with
      | And => cases xs with
        | nil => exact ff h
        | cons _ xs => cases xs with
          | nil => exact ff h
          | cons _ xs => cases xs <;> exact ff h
      | Or =>
        cases xs with
        | nil => exact ff h
        | cons x xs =>
          cases xs with
          | nil => exact ff h
          | cons y xs =>
            cases xs with
            | nil =>
              obtain ⟨h1, h2⟩ := an (show (chkE c a x && chkE c b y) = true from h)
              exact e_orv (pe_orT (okE a _ _ g x h1) (pe_one (okE b _ _ g y h2)))
            | cons z r =>
              obtain ⟨h1, h2⟩ := an (show (chkE c a x && chkE c b (.BoolOp .Or (y :: z :: r) p)) = true from h)
              exact e_orv (pe_orT (okE a _ _ g x h1) (okE b _ _ g (.BoolOp _ (y :: z :: r) p) h2))
    | _ => exact ff h
theorem okT : ∀ (t : T) (c : Cfg) (X : Cx) (_ : Good c G n X) (e : Expr), chkT c t e = true → PT X e (rdT X.K (denT G t))
  | .and a b, c, X, g, e, h => by
    cases e with
    | BoolOp op xs p =>
      cases op with
      | Or => cases xs with
        | nil => exact ff h
        | cons _ xs => cases xs with
          | nil => exact ff h
          | cons _ xs => cases xs <;> exact ff h
      | And =>
        cases xs with
        | nil => exact ff h
        | cons x xs =>
          cases xs with
          | nil => exact ff h
          | cons y xs =>
            cases xs with
            | nil =>
              obtain ⟨h1, h2⟩ := an (show (chkT c a x && chkT c b y) = true from h)
              exact t_and (PW.pt (pw_and (okT a _ _ g x h1) (pw_and1 (okT b _ _ g y h2))))
            | cons z r =>
              obtain ⟨h1, h2⟩ := an (show (chkT c a x && chkT c b (.BoolOp .And (y :: z :: r) p)) = true from h)
              exact t_and (PW.pt (pw_and (okT a _ _ g x h1) (pw_of_pt (okT b _ _ g (.BoolOp _ (y :: z :: r) p) h2))))
    | _ => exact ff h
  | .or a b, c, X, g, e, h => by
    cases e with
    | BoolOp op xs p =>
      cases op with
      | And => cases xs with
        | nil => exact ff h
        | cons _ xs => cases xs with
          | nil => exact ff h
          | cons _ xs => cases xs <;> exact ff h
      | Or =>
        cases xs with
        | nil => exact ff h
        | cons x xs =>
          cases xs with
          | nil => exact ff h
          | cons y xs =>
            cases xs with
            | nil =>
              obtain ⟨h1, h2⟩ := an (show (chkT c a x && chkT c b y) = true from h)
              exact t_or (PW.pt (pw_or (okT a _ _ g x h1) (pw_or1 (okT b _ _ g y h2))))
            | cons z r =>
              obtain ⟨h1, h2⟩ := an (show (chkT c a x && chkT c b (.BoolOp .Or (y :: z :: r) p)) = true from h)
              exact t_or (PW.pt (pw_or (okT a _ _ g x h1) (pw_of_pt (okT b _ _ g (.BoolOp _ (y :: z :: r) p) h2))))
    | _ => exact ff h
  | .not a, c, X, g, e, h => by
    cases e with
    | UnaryOp op x p =>
      cases op with
      | Not => exact t_not (pt_not (okT a _ _ g x h))
      | _ => exact ff h
    | _ => exact ff h
  | .cmp o a b, c, X, g, e, h => by
    cases e with
    | Compare l ops rs p =>
      cases ops with
      | nil => exact ff h
      | cons op ops =>
        cases ops with
        | cons _ _ => exact ff h
        | nil =>
          cases rs with
          | nil => exact ff h
          | cons r rs =>
            cases rs with
            | cons _ _ => exact ff h
            | nil =>
              obtain ⟨h, h4⟩ := an (show (decide (op = copOf o) && chkE c a l && chkE c b r && !behindInMarks op r) = true from h)
              obtain ⟨h, h3⟩ := an h
              obtain ⟨h1, h2⟩ := an h
              have e : op = copOf o := of_decide_eq_true h1
              subst e
              exact t_cmp (pt_cmpR (s_cmp g.r0 o) (okE a _ _ g l h2) (okE b _ _ g r h3) (by simpa using h4))
    | _ => exact ff h
  | .chn o o' a b d, c, X, g, e, h => by
    cases e with
    | Compare l ops rs p =>
      cases ops with
      | nil => exact ff h
      | cons op ops =>
        cases ops with
        | nil => cases rs with
          | nil => exact ff h
          | cons _ rs => cases rs <;> exact ff h
        | cons op' ops =>
          cases ops with
          | cons _ _ => exact ff h
          | nil =>
            cases rs with
            | nil => exact ff h
            | cons m rs =>
              cases rs with
              | nil => exact ff h
              | cons r rs =>
                cases rs with
                | cons _ _ => exact ff h
                | nil =>
                  obtain ⟨h, h6⟩ := an (show (decide (op = copOf o) && decide (op' = copOf o') && chkE c a l && chkE c b m && chkE c d r && !lastMarks [op, op'] [m, r]) = true from h)
                  obtain ⟨h, h5⟩ := an h
                  obtain ⟨h, h4⟩ := an h
                  obtain ⟨h, h3⟩ := an h
                  obtain ⟨h1, h2⟩ := an h
                  have e : op = copOf o := of_decide_eq_true h1
                  have e' : op' = copOf o' := of_decide_eq_true h2
                  subst e e'
                  exact t_chn (pt_chain (s_cmp g.r0 o) (s_cmp g.r0 o') (okE a _ _ g l h3) (okE b _ _ g m h4) (okE d _ _ g r h5) (by simpa using h6))
    | _ => exact ff h
  | .chn3 o o' o'' a b d f, c, X, g, e, h => by
    cases e with
    | Compare l ops rs p =>
      rcases ops with _ | ⟨op, _ | ⟨op', _ | ⟨op'', _ | ⟨_, _⟩⟩⟩⟩ <;> rcases rs with _ | ⟨m, _ | ⟨r, _ | ⟨q, _ | ⟨_, _⟩⟩⟩⟩ <;> first | exact ff h | skip
      obtain ⟨h, h8⟩ := an (show (decide (op = copOf o) && decide (op' = copOf o') && decide (op'' = copOf o'') && chkE c a l && chkE c b m && chkE c d r && chkE c f q && !lastMarks [op, op', op''] [m, r, q]) = true from h)
      obtain ⟨h, h7⟩ := an h
      obtain ⟨h, h6⟩ := an h
      obtain ⟨h, h5⟩ := an h
      obtain ⟨h, h4⟩ := an h
      obtain ⟨h, h3⟩ := an h
      obtain ⟨h1, h2⟩ := an h
      have e : op = copOf o := of_decide_eq_true h1
      have e' : op' = copOf o' := of_decide_eq_true h2
      have e'' : op'' = copOf o'' := of_decide_eq_true h3
      subst e e' e''
      exact t_chn3 (pt_chain3 (s_cmp g.r0 o) (s_cmp g.r0 o') (s_cmp g.r0 o'') (okE a _ _ g l h4) (okE b _ _ g m h5) (okE d _ _ g r h6) (okE f _ _ g q h7) (by simpa using h8))
    | _ => exact ff h
  | .one i, c, X, g, e, h => by
    cases e with
    | Compare l ops rs p =>
      cases ops with
      | nil => exact ff h
      | cons op ops =>
        cases rs with
        | nil => cases ops <;> cases op <;> exact ff h
        | cons r rs =>
          cases ops with
          | cons _ _ => cases op <;> exact ff h
          | nil =>
            cases op <;> first | (cases rs <;> cases r <;> exact ff h) | skip
            cases rs with
            | cons _ _ => cases r <;> first | exact ff h | (rename_i es _; cases es <;> exact ff h)
            | nil =>
              cases r with
              | List es q =>
                cases es with
                | nil => exact t_one (pt_cmpR (op_neD g.r0.units) (var_pe g h) (pe_lst pa_nil) rfl)
                | cons _ _ => exact ff h
              | _ => exact ff h
    | _ => exact ff h
  | .oem i, c, X, g, e, h => by
    cases e with
    | Compare l ops rs p =>
      cases ops with
      | nil => exact ff h
      | cons op ops =>
        cases rs with
        | nil => cases ops <;> cases op <;> exact ff h
        | cons r rs =>
          cases ops with
          | cons _ _ => cases op <;> exact ff h
          | nil =>
            cases op <;> first | (cases rs <;> cases r <;> exact ff h) | skip
            cases rs with
            | cons _ _ => cases r <;> first | exact ff h | (rename_i es _; cases es <;> exact ff h)
            | nil =>
              cases r with
              | List es q =>
                cases es with
                | nil => exact t_oem (pt_cmpR (op_eqD g.r0.units) (var_pe g h) (pe_lst pa_nil) rfl)
                | cons _ _ => exact ff h
              | _ => exact ff h
    | _ => exact ff h
  | .tne a, c, X, g, e, h => by
    cases e with
    | Compare l ops rs p =>
      cases ops with
      | nil => exact ff h
      | cons op ops =>
        cases rs with
        | nil => cases ops <;> cases op <;> exact ff h
        | cons r rs =>
          cases ops with
          | cons _ _ => cases op <;> exact ff h
          | nil =>
            cases op <;> first | (cases rs <;> cases r <;> exact ff h) | skip
            cases rs with
            | cons _ _ => cases r <;> first | exact ff h | (rename_i es _ _; cases es <;> exact ff h)
            | nil =>
              cases r with
              | Tuple es k q =>
                cases es with
                | nil => exact t_tpe (pt_cmpR (op_tpn (by have := g.r0.units; omega)) (okE a c X g l h) (pe_tup pa_nil) rfl)
                | cons _ _ => exact ff h
              | _ => exact ff h
    | _ => exact ff h
  | .teq a, c, X, g, e, h => by
    cases e with
    | Compare l ops rs p =>
      cases ops with
      | nil => exact ff h
      | cons op ops =>
        cases rs with
        | nil => cases ops <;> cases op <;> exact ff h
        | cons r rs =>
          cases ops with
          | cons _ _ => cases op <;> exact ff h
          | nil =>
            cases op <;> first | (cases rs <;> cases r <;> exact ff h) | skip
            cases rs with
            | cons _ _ => cases r <;> first | exact ff h | (rename_i es _ _; cases es <;> exact ff h)
            | nil =>
              cases r with
              | Tuple es k q =>
                cases es with
                | nil => exact t_tpe (pt_cmpR (op_tpe (by have := g.r0.units; omega)) (okE a c X g l h) (pe_tup pa_nil) rfl)
                | cons _ _ => exact ff h
              | _ => exact ff h
    | _ => exact ff h
  | .lne a, c, X, g, e, h => by
    cases e with
    | Compare l ops rs p =>
      cases ops with
      | nil => exact ff h
      | cons op ops =>
        cases rs with
        | nil => cases ops <;> cases op <;> exact ff h
        | cons r rs =>
          cases ops with
          | cons _ _ => cases op <;> exact ff h
          | nil =>
            cases op <;> first | (cases rs <;> cases r <;> exact ff h) | skip
            cases rs with
            | cons _ _ => cases r <;> first | exact ff h | (rename_i es _; cases es <;> exact ff h)
            | nil =>
              cases r with
              | List es q =>
                cases es with
                | nil => exact t_lse (f := (!·)) (pt_cmpR (op_lsn (by have := g.r0.units; omega)) (okE a c X g l h) (pe_lst pa_nil) rfl)
                | cons _ _ => exact ff h
              | _ => exact ff h
    | _ => exact ff h
  | .leq a, c, X, g, e, h => by
    cases e with
    | Compare l ops rs p =>
      cases ops with
      | nil => exact ff h
      | cons op ops =>
        cases rs with
        | nil => cases ops <;> cases op <;> exact ff h
        | cons r rs =>
          cases ops with
          | cons _ _ => cases op <;> exact ff h
          | nil =>
            cases op <;> first | (cases rs <;> cases r <;> exact ff h) | skip
            cases rs with
            | cons _ _ => cases r <;> first | exact ff h | (rename_i es _; cases es <;> exact ff h)
            | nil =>
              cases r with
              | List es q =>
                cases es with
                | nil => exact t_lse (f := id) (pt_cmpR (op_lse (by have := g.r0.units; omega)) (okE a c X g l h) (pe_lst pa_nil) rfl)
                | cons _ _ => exact ff h
              | _ => exact ff h
    | _ => exact ff h
  | .cne a, c, X, g, e, h => by
    cases e with
    | Compare l ops rs p =>
      cases ops with
      | nil => exact ff h
      | cons op ops =>
        cases rs with
        | nil => cases ops <;> cases op <;> exact ff h
        | cons r rs =>
          cases ops with
          | cons _ _ => cases op <;> exact ff h
          | nil =>
            cases op <;> first | (cases rs <;> cases r <;> exact ff h) | skip
            cases rs with
            | cons _ _ => cases r <;> first | exact ff h | (rename_i es _; cases es <;> exact ff h)
            | nil =>
              cases r with
              | List es q =>
                cases es with
                | nil => exact t_cne (pt_cmpR (op_neD g.r0.units) (okE a c X g l h) (pe_lst pa_nil) rfl)
                | cons _ _ => exact ff h
              | _ => exact ff h
    | _ => exact ff h
  | .ceq a, c, X, g, e, h => by
    cases e with
    | Compare l ops rs p =>
      cases ops with
      | nil => exact ff h
      | cons op ops =>
        cases rs with
        | nil => cases ops <;> cases op <;> exact ff h
        | cons r rs =>
          cases ops with
          | cons _ _ => cases op <;> exact ff h
          | nil =>
            cases op <;> first | (cases rs <;> cases r <;> exact ff h) | skip
            cases rs with
            | cons _ _ => cases r <;> first | exact ff h | (rename_i es _; cases es <;> exact ff h)
            | nil =>
              cases r with
              | List es q =>
                cases es with
                | nil => exact t_ceq (pt_cmpR (op_eqD g.r0.units) (okE a c X g l h) (pe_lst pa_nil) rfl)
                | cons _ _ => exact ff h
              | _ => exact ff h
    | _ => exact ff h
  | .val a, c, X, g, e, h => by
    obtain ⟨h1, h2⟩ := an (show (chkE c a e && plainTest e) = true from h)
    exact t_val (okE a _ _ g e h1) (test_plain h2)
theorem okEs : ∀ (as : Es) (c : Cfg) (X : Cx) (_ : Good c G n X) (es : List Expr), chkEs c as es = true → PA X es (rdA X.K (denEs G as))
  | .nil, c, X, g, [], _ => a_nil
  | .nil, c, X, g, _ :: _, h => ff h
  | .cons _ _, c, X, g, [], h => ff h
  | .cons a as, c, X, g, e :: es, h => by
    obtain ⟨h, h3⟩ := an (show (chkE c a e && notStar e && chkEs c as es) = true from h)
    obtain ⟨h1, h2⟩ := an h
    exact a_cons (pa_cons (okE a _ _ g e h1) (okEs as _ _ g es h3) (star_cons h2))
theorem okPs : ∀ (as : Es) (c : Cfg) (X : Cx) (_ : Good c G n X) (ks : List String) (keys : List (Option Expr)) (vals : List Expr) (p : Pos), chkKs ks keys = true → chkEs c as vals = true → keys.length = vals.length → PPs X p keys vals (pairsT X.K ks (msOf G as))
  | .nil, c, X, g, ks, keys, [], p, h1, h2, hl => by
    have := List.length_eq_zero_iff.mp hl
    subst this
    cases ks with
    | nil => exact pps_nil
    | cons _ _ => exact ff h1
  | .nil, c, X, g, ks, keys, _ :: _, p, h1, h2, hl => ff h2
  | .cons a as, c, X, g, ks, keys, [], p, h1, h2, hl => ff h2
  | .cons a as, c, X, g, ks, [], e :: es, p, h1, h2, hl => by cases hl
  | .cons a as, c, X, g, [], k :: keys, e :: es, p, h1, h2, hl => ff h1
  | .cons a as, c, X, g, k0 :: ks, none :: keys, e :: es, p, h1, h2, hl => ff h1
  | .cons a as, c, X, g, k0 :: ks, some k :: keys, e :: es, p, h1, h2, hl => by
    obtain ⟨h, h4⟩ := an (show (chkE c a e && notStar e && chkEs c as es) = true from h2)
    obtain ⟨h3, _⟩ := an h
    cases k with
    | Constant w j p2 =>
      cases w with
      | str x =>
        obtain ⟨q1, q2⟩ := an (show (isNm k0 x && chkKs ks keys) = true from h1)
        have e1 : x = Str.ofString k0 := of_decide_eq_true q1
        subst e1
        exact pps_cons pe_str (okE a _ _ g e h3) (okPs as c X g ks keys es p q2 h4 (Nat.succ.inj hl))
      | _ => exact ff h1
    | _ => exact ff h1
theorem okO : ∀ (a : O) (c : Cfg) (X : Cx) (_ : Good c G n X) (e : Option Expr), chkO c a e = true → PO X e (rdO X.K (denO G a))
  | .no, c, X, g, none, _ => o_no
  | .no, c, X, g, some _, h => ff h
  | .yes _, c, X, g, none, h => ff h
  | .yes a, c, X, g, some e, h => o_yes (okE a _ _ g e h)
theorem okC : ∀ (a : Oc) (c : Cfg) (X : Cx) (_ : Good c G n X) (e : List Expr), chkC c a e = true → PTs X e (rdT X.K (denC G a))
  | .no, c, X, g, [], _ => c_no
  | .no, c, X, g, _ :: _, h => ff h
  | .yes _, c, X, g, [], h => ff h
  | .yes _, c, X, g, _ :: _ :: _, h => ff h
  | .yes a, c, X, g, [e], h => c_yes (okT a _ _ g e h)
theorem okL : ∀ (l : L) (c : Cfg) (X : Cx) (_ : Good c G n X) (e : Expr), chkL c l e = true → PE X e (rdL X.K (denL G l)) ∧ SwOk X c e (rdL X.K (denL G l))
  | .lit es, c, X, g, e, h => by
    cases e with
    | List xs p => exact ⟨l_lit (pe_lst (okEs es _ _ g xs h)), swok_no rfl⟩
    | _ => exact ff h
  | .comp own elt tg it t, c, X, g, e, h => by
    cases e with
    | ListComp el gs scope p =>
      cases gs with
      | nil => exact ff h
      | cons ge gs =>
        obtain ⟨ta, ie, ifs, as⟩ := ge
        cases gs with
        | cons _ _ => cases as with
          | ofNat k => cases k <;> exact ff h
          | negSucc _ => exact ff h
        | nil =>
          cases as with
          | negSucc _ => exact ff h
          | ofNat k =>
           cases k with
           | succ _ => exact ff h
           | zero =>
            have h : (chkI c it ta ie && blkC c.N c.sc scope (own.filterMap fun i => c.N[i]?.map fun x => (x, i)) && decide ((own.filterMap fun i => c.N[i]?.map fun x => (x, i)).map (·.2) = own) && (tgSlots tg).all (fun i => own.contains i) &&
              chkTg { c with sc := relS scope c.sc, blk := some scope } tg ta && chkC { c with sc := relS scope c.sc, blk := some scope } t ifs && chkE { c with sc := relS scope c.sc, blk := some scope } elt el && notSet ie) = true := h
            generalize hnm : (own.filterMap fun i => c.N[i]?.map fun x => (x, i)) = nm at h
            obtain ⟨h, h8⟩ := an h
            obtain ⟨h, h7⟩ := an h
            obtain ⟨h, h6⟩ := an h
            obtain ⟨h, h5⟩ := an h
            obtain ⟨h, h4⟩ := an h
            obtain ⟨h, h3⟩ := an h
            obtain ⟨h1, h2⟩ := an h
            have e3 : nm.map (·.2) = own := of_decide_eq_true h3
            have bk : BlkOk X.N X.env.scope scope nm := by rw [g.hN, g.sc]; exact blkOk_by h2
            have hsub : ∀ i ∈ tgSlots tg, i ∈ nm.map (·.2) := fun i hi => by
              rw [e3]
              have := List.all_eq_true.mp h4 i hi
              simpa using this
            have hI := okI it _ _ g ta ie h1
            have hT := fun (s : Shared) (H : Hp) (C : Addr) (cl : List (Str × Addr)) (fp : List Addr) => okTg (g.blk bk.kind s H C cl fp) tg ta h5
            have hC := fun (s : Shared) (H : Hp) (C : Addr) (cl : List (Str × Addr)) (fp : List Addr) => okC t _ _ (g.blk bk.kind s H C cl fp) ifs h6
            have hE := fun (s : Shared) (H : Hp) (C : Addr) (cl : List (Str × Addr)) (fp : List Addr) => okE elt _ _ (g.blk bk.kind s H C cl fp) el h7
            have nd : X.N.Nodup := by rw [g.hN]; exact g.nd
            have key : ∀ (σ : L2.St) (H : Hp) (Q : VK), rdL X.K (denL G (.comp own elt tg it t)) σ H Q → tLc (rdI X.K (denI G it)) (rg X.K tg) (rdT X.K (denC G t)) (rd X.K (denE G elt)) (nm.map (·.2)) σ H Q := fun σ H Q q => by
              refine te_comp hsub σ H Q ?_
              rw [e3]
              exact q
            refine ⟨pe_weak (pe_lc g.calm nd hI bk hT hC hE (notSet_inv h8)) key, fun i x px sp hi hs => ?_⟩
            obtain ⟨hs, s3⟩ := an (show (decide (c.sc.names.lookup x = some .local) && (px.line == p.line) && !(scope.names.any fun (n, k) => n == x && (k == .local || k == .cell))) = true from hs)
            obtain ⟨s1, s2⟩ := an hs
            have lx : X.env.scope.names.lookup x = some .local := by rw [g.sc]; exact of_decide_eq_true s1
            exact ps_weak (ps_setLc g.calm nd (by rw [g.hN]; exact hi) lx (sw_any (by rw [g.sc]; exact g.kind) lx s2 (by simpa using s3)) hI bk hT hC hE (notSet_inv h8)) fun D σ H q => key σ H _ q
    | _ => exact ff h
  | .compc own elt tg it t, c, X, g, e, h => by
    cases e with
    | ListComp el gs scope p =>
      cases gs with
      | nil => exact ff h
      | cons ge gs =>
        obtain ⟨ta, ie, ifs, as⟩ := ge
        cases gs with
        | cons _ _ => cases as with
          | ofNat k => cases k <;> exact ff h
          | negSucc _ => exact ff h
        | nil =>
          cases as with
          | negSucc _ => exact ff h
          | ofNat k =>
           cases k with
           | succ _ => exact ff h
           | zero =>
            have h : (chkE c it ie && blkC c.N c.sc scope (own.filterMap fun i => c.N[i]?.map fun x => (x, i)) && decide ((own.filterMap fun i => c.N[i]?.map fun x => (x, i)).map (·.2) = own) && (tgSlots tg).all (fun i => own.contains i) &&
              chkTg { c with sc := relS scope c.sc, blk := some scope } tg ta && chkC { c with sc := relS scope c.sc, blk := some scope } t ifs && chkE { c with sc := relS scope c.sc, blk := some scope } elt el && notSet ie) = true := h
            generalize hnm : (own.filterMap fun i => c.N[i]?.map fun x => (x, i)) = nm at h
            obtain ⟨h, h8⟩ := an h
            obtain ⟨h, h7⟩ := an h
            obtain ⟨h, h6⟩ := an h
            obtain ⟨h, h5⟩ := an h
            obtain ⟨h, h4⟩ := an h
            obtain ⟨h, h3⟩ := an h
            obtain ⟨h1, h2⟩ := an h
            have e3 : nm.map (·.2) = own := of_decide_eq_true h3
            have bk : BlkOk X.N X.env.scope scope nm := by rw [g.hN, g.sc]; exact blkOk_by h2
            have hsub : ∀ i ∈ tgSlots tg, i ∈ nm.map (·.2) := fun i hi => by
              rw [e3]
              have := List.all_eq_true.mp h4 i hi
              simpa using this
            have hI : PI X ta ie (iSeq X.K (rd X.K (denE G it))) := pi_seq (okE it _ _ g ie h1)
            have hT := fun (s : Shared) (H : Hp) (C : Addr) (cl : List (Str × Addr)) (fp : List Addr) => okTg (g.blk bk.kind s H C cl fp) tg ta h5
            have hC := fun (s : Shared) (H : Hp) (C : Addr) (cl : List (Str × Addr)) (fp : List Addr) => okC t _ _ (g.blk bk.kind s H C cl fp) ifs h6
            have hE := fun (s : Shared) (H : Hp) (C : Addr) (cl : List (Str × Addr)) (fp : List Addr) => okE elt _ _ (g.blk bk.kind s H C cl fp) el h7
            have nd : X.N.Nodup := by rw [g.hN]; exact g.nd
            have key : ∀ (σ : L2.St) (H : Hp) (Q : VK), rdL X.K (denL G (.compc own elt tg it t)) σ H Q → tLc (iSeq X.K (rd X.K (denE G it))) (rg X.K tg) (rdT X.K (denC G t)) (rd X.K (denE G elt)) (nm.map (·.2)) σ H Q := fun σ H Q q => by
              refine te_compc hsub σ H Q ?_
              rw [e3]
              exact q
            refine ⟨pe_weak (pe_lc g.calm nd hI bk hT hC hE (notSet_inv h8)) key, fun i x px sp hi hs => ?_⟩
            obtain ⟨hs, s3⟩ := an (show (decide (c.sc.names.lookup x = some .local) && (px.line == p.line) && !(scope.names.any fun (n, k) => n == x && (k == .local || k == .cell))) = true from hs)
            obtain ⟨s1, s2⟩ := an hs
            have lx : X.env.scope.names.lookup x = some .local := by rw [g.sc]; exact of_decide_eq_true s1
            exact ps_weak (ps_setLc g.calm nd (by rw [g.hN]; exact hi) lx (sw_any (by rw [g.sc]; exact g.kind) lx s2 (by simpa using s3)) hI bk hT hC hE (notSet_inv h8)) fun D σ H q => key σ H _ q
    | _ => exact ff h
  | .list a, c, X, g, e, h => by
    cases e with
    | Call fn xs ks p =>
      cases xs with
      | nil => exact ff h
      | cons x xs =>
        cases xs with
        | cons _ _ => exact ff h
        | nil =>
          cases ks with
          | cons _ _ => exact ff h
          | nil =>
            obtain ⟨h, h3⟩ := an (show (chkG c "list" fn && chkE c a x && notStar x) = true from h)
            obtain ⟨h1, h2⟩ := an h
            obtain ⟨q, rfl, hg, hp⟩ := chkG_inv g h1
            obtain ⟨p1, _, p3⟩ := plainNm_inv hp
            refine ⟨pe_weak (l_call1 (pe_callTy c_list hg (g.blt _ (by decide)) (by decide +kernel) (pa_cons (okE a _ _ g x h2) pa_nil (star_cons h3)) p3 p1 (star_cons h3) rfl)) fun σ H Q q => ?_, swok_no rfl⟩
            obtain ⟨B, F, ρ, C, P, R, m, k⟩ := q
            refine ⟨B, F, ρ, C, P, R, ?_, k⟩
            exact m
    | _ => exact ff h
  | .srt a, c, X, g, e, h => by
    cases e with
    | Call fn xs ks p =>
      cases xs with
      | nil => exact ff h
      | cons x xs =>
        cases xs with
        | cons _ _ => exact ff h
        | nil =>
          cases ks with
          | cons _ _ => exact ff h
          | nil =>
            obtain ⟨h, h3⟩ := an (show (chkG c "sorted" fn && chkE c a x && notStar x) = true from h)
            obtain ⟨h1, h2⟩ := an h
            obtain ⟨q, rfl, hg, hp⟩ := chkG_inv g h1
            obtain ⟨p1, _, p3⟩ := plainNm_inv hp
            refine ⟨pe_weak (l_call1 (pe_callB c_sorted hg (g.blt _ (by decide)) (by decide +kernel) (pa_cons (okE a _ _ g x h2) pa_nil (star_cons h3)) p3 p1 (star_cons h3) rfl)) fun σ H Q q => ?_, swok_no rfl⟩
            obtain ⟨B, F, ρ, C, P, R, m, k⟩ := q
            exact ⟨B, F, ρ, C, P, R, m, k⟩
    | _ => exact ff h
  | .srr a, c, X, g, e, h => by
    cases e with
    | Call fn xs ks p =>
      cases xs with
      | nil => exact ff h
      | cons x xs =>
        cases xs with
        | cons _ _ => exact ff h
        | nil =>
          cases ks with
          | nil => exact ff h
          | cons kw ks =>
            obtain ⟨nm, v, kp⟩ := kw
            cases ks with
            | cons _ _ => cases nm <;> cases v <;> first | exact ff h | (rename_i k _ _; cases k <;> exact ff h)
            | nil =>
              cases nm with
              | none => exact ff h
              | some nm =>
                cases v with
                | Constant k j kp2 =>
                  cases k with
                  | bool bb =>
                    obtain ⟨h, h5⟩ := an (show (chkG c "sorted" fn && chkE c a x && notStar x && isNm "reverse" nm && bb) = true from h)
                    obtain ⟨h, h4⟩ := an h
                    obtain ⟨h, h3⟩ := an h
                    obtain ⟨h1, h2⟩ := an h
                    have e1 : nm = Str.ofString "reverse" := of_decide_eq_true h4
                    subst e1 h5
                    obtain ⟨q, rfl, hg, hp⟩ := chkG_inv g h1
                    obtain ⟨p1, _, p3⟩ := plainNm_inv hp
                    refine ⟨pe_weak (l_callK (pe_callBK c_sortedR hg (g.blt _ (by decide)) (by decide +kernel) (pa_cons (okE a _ _ g x h2) pa_nil (star_cons h3)) (pk_cons pe_bl pk_nil) p3 p1 (by rw [star_cons h3]; rfl) (by rw [star_cons h3]; rfl) rfl rfl rfl)) fun σ H Q q => ?_, swok_no rfl⟩
                    obtain ⟨B, F, ρ, C, P, R, m, k⟩ := q
                    exact ⟨B, F, ρ, C, P, R, m, k⟩
                  | _ => exact ff h
                | _ => exact ff h
    | _ => exact ff h
  | .ls2 a, c, X, g, e, h => by
    cases e with
    | Subscript v s p =>
      cases s with
      | Slice l u st p2 =>
        cases l with
        | none => exact ff h
        | some l =>
          cases l with
          | UnaryOp op x p3 =>
            cases op with
            | USub =>
              cases x with
              | Constant k j p4 =>
                cases k with
                | int i' =>
                  cases u with
                  | some _ => exact ff h
                  | none =>
                    cases st with
                    | none => exact ff h
                    | some q =>
                      cases q with
                      | UnaryOp op x p3 =>
                        cases op with
                        | USub =>
                          cases x with
                          | Constant k j p4 =>
                            cases k with
                            | int i =>
                              obtain ⟨h, h3⟩ := an (show (chkE c a v && decide (i' = 2) && decide (i = 1)) = true from h)
                              obtain ⟨h1, h2⟩ := an h
                              have e : i = 1 := of_decide_eq_true h3
                              have e' : i' = 2 := of_decide_eq_true h2
                              subst e e'
                              exact ⟨l_ls2 (pe_rev2 (okE a _ _ g v h1)), swok_no rfl⟩
                            | _ => exact ff h
                          | _ => exact ff h
                        | _ => exact ff h
                      | _ => exact ff h
                | _ => exact ff h
              | _ => exact ff h
            | _ => exact ff h
          | _ => exact ff h
      | _ => exact ff h
    | _ => exact ff h
  | .lrv a, c, X, g, e, h => by
    cases e with
    | Subscript v s p =>
      cases s with
      | Slice l u st p2 =>
        cases l with
        | some _ => exact ff h
        | none =>
          cases u with
          | some _ => exact ff h
          | none =>
            cases st with
            | none => exact ff h
            | some q =>
              cases q with
              | UnaryOp op x p3 =>
                cases op with
                | USub =>
                  cases x with
                  | Constant k j p4 =>
                    cases k with
                    | int i =>
                      obtain ⟨h1, h2⟩ := an (show (chkE c a v && decide (i = 1)) = true from h)
                      have e : i = 1 := of_decide_eq_true h2
                      subst e
                      exact ⟨l_lrv (pe_revL (okE a _ _ g v h1)), swok_no rfl⟩
                    | _ => exact ff h
                  | _ => exact ff h
                | _ => exact ff h
              | _ => exact ff h
      | _ => exact ff h
    | _ => exact ff h
  | .lrg1 a, c, X, g, e, h => by
    cases e with
    | Call fn xs ks p =>
      cases xs with
      | nil => exact ff h
      | cons u xs =>
        cases xs with
        | cons _ _ => cases u with
          | Call fm ys ls p2 => cases ys with
            | nil => exact ff h
            | cons _ ys => cases ys with
              | nil => cases ls <;> exact ff h
              | cons _ ys => exact ff h
          | _ => exact ff h
        | nil =>
          cases u with
          | Call fm ys ls p2 =>
            cases ys with
            | nil => exact ff h
            | cons x ys =>
              cases ys with
              | cons _ _ => exact ff h
              | nil =>
                cases ls with
                | cons _ _ => exact ff h
                | nil =>
                  cases ks with
                  | cons _ _ => exact ff h
                  | nil =>
                    obtain ⟨h, h4⟩ := an (show (chkG c "list" fn && chkG c "range" fm && chkE c a x && notStar x) = true from h)
                    obtain ⟨h, h3⟩ := an h
                    obtain ⟨h1, h2⟩ := an h
                    obtain ⟨q, rfl, hg, hp⟩ := chkG_inv g h1
                    obtain ⟨q2, rfl, hg2, hp2⟩ := chkG_inv g h2
                    exact ⟨l_lrg1 (pe_listRg g.calm hg (g.blt _ (by decide)) (prg_1 hg2 (g.blt _ (by decide)) (okE a _ _ g x h3) (star_cons h4)) rfl), swok_no rfl⟩
          | _ => exact ff h
    | _ => exact ff h
  | .lrg2 a b, c, X, g, e, h => by
    cases e with
    | Call fn xs ks p =>
      cases xs with
      | nil => exact ff h
      | cons u xs =>
        cases xs with
        | cons _ _ => cases u with
          | Call fm ys ls p2 => cases ys with
            | nil => exact ff h
            | cons _ ys => cases ys with
              | nil => exact ff h
              | cons _ ys => cases ys with
                | nil => cases ls <;> exact ff h
                | cons _ _ => exact ff h
          | _ => exact ff h
        | nil =>
          cases u with
          | Call fm ys ls p2 =>
            cases ys with
            | nil => exact ff h
            | cons x ys =>
              cases ys with
              | nil => exact ff h
              | cons y ys =>
                cases ys with
                | cons _ _ => exact ff h
                | nil =>
                  cases ls with
                  | cons _ _ => exact ff h
                  | nil =>
                    cases ks with
                    | cons _ _ => exact ff h
                    | nil =>
                      obtain ⟨h, h6⟩ := an (show (chkG c "list" fn && chkG c "range" fm && chkE c a x && notStar x && chkE c b y && notStar y) = true from h)
                      obtain ⟨h, h5⟩ := an h
                      obtain ⟨h, h4⟩ := an h
                      obtain ⟨h, h3⟩ := an h
                      obtain ⟨h1, h2⟩ := an h
                      obtain ⟨q, rfl, hg, hp⟩ := chkG_inv g h1
                      obtain ⟨q2, rfl, hg2, hp2⟩ := chkG_inv g h2
                      exact ⟨l_lrg2 (pe_listRg g.calm hg (g.blt _ (by decide)) (prg_2 hg2 (g.blt _ (by decide)) (okE a _ _ g x h3) (okE b _ _ g y h5) (star_cons h4) (star_cons h6) (any1 h6)) rfl), swok_no rfl⟩
          | _ => exact ff h
    | _ => exact ff h
  | .rep a b, c, X, g, e, h => by
    cases e with
    | BinOp l op r p =>
      cases op with
      | Mult =>
        obtain ⟨h1, h2⟩ := an (show (chkE c a l && chkE c b r) = true from h)
        exact ⟨l_rep (pe_op op_rep (okE a _ _ g l h1) (okE b _ _ g r h2)), swok_no rfl⟩
      | _ => exact ff h
    | _ => exact ff h
  | .cat a b, c, X, g, e, h => by
    cases e with
    | BinOp l op r p =>
      cases op with
      | Add =>
        obtain ⟨h1, h2⟩ := an (show (chkE c a l && chkE c b r) = true from h)
        exact ⟨l_cat (pe_op op_cat (okE a _ _ g l h1) (okE b _ _ g r h2)), swok_no rfl⟩
      | _ => exact ff h
    | _ => exact ff h
  | .rvd a, c, X, g, e, h => by
    cases e with
    | Call fn xs ks p =>
      cases xs with
      | nil => exact ff h
      | cons u xs =>
        cases xs with
        | cons _ _ =>
          cases u with
          | Call fm ys ls p2 =>
            cases ys with
            | nil => exact ff h
            | cons y ys =>
              cases ys with
              | nil => cases ls <;> exact ff h
              | cons _ _ => exact ff h
          | _ => exact ff h
        | nil =>
          cases u with
          | Call fm ys ls p2 =>
            cases ys with
            | nil => exact ff h
            | cons x ys =>
              cases ys with
              | cons _ _ => exact ff h
              | nil =>
                cases ls with
                | cons _ _ => exact ff h
                | nil =>
                  cases ks with
                  | cons _ _ => exact ff h
                  | nil =>
                    obtain ⟨h, h4⟩ := an (show (chkG c "list" fn && chkG c "reversed" fm && chkE c a x && notStar x) = true from h)
                    obtain ⟨h, h3⟩ := an h
                    obtain ⟨h1, h2⟩ := an h
                    obtain ⟨q, rfl, hg, hp⟩ := chkG_inv g h1
                    obtain ⟨q2, rfl, hg2, hp2⟩ := chkG_inv g h2
                    exact ⟨l_rvd (N1.pe_lstRev g.calm hg (g.blt _ (by decide)) hg2 (g.blt _ (by decide)) (okE a _ _ g x h3) (star_cons h4) rfl), swok_no rfl⟩
          | _ => exact ff h
    | _ => exact ff h
theorem okI : ∀ (i : I) (c : Cfg) (X : Cx) (_ : Good c G n X) (t e : Expr), chkI c i t e = true → PI X t e (rdI X.K (denI G i))
  | .seq a, c, X, g, t, e, h => i_seq (pi_seq (okE a _ _ g e h))
  | .rng1 a, c, X, g, t, e, h => by
    cases e with
    | Call fn xs ks p =>
      cases xs with
      | nil => exact ff h
      | cons x xs =>
        cases xs with
        | cons _ _ => exact ff h
        | nil =>
          cases ks with
          | cons _ _ => exact ff h
          | nil =>
            obtain ⟨h, h3⟩ := an (show (chkG c "range" fn && chkE c a x && notStar x) = true from h)
            obtain ⟨h1, h2⟩ := an h
            obtain ⟨q, rfl, hg, hp⟩ := chkG_inv g h1
            exact i_rng1 (pi_range1 hg (g.blt _ (by decide)) (pa_cons (okE a _ _ g x h2) pa_nil (star_cons h3)) (by rw [star_cons h3]; rfl))
    | _ => exact ff h
  | .rng2 a b, c, X, g, t, e, h => by
    cases e with
    | Call fn xs ks p =>
      cases xs with
      | nil => exact ff h
      | cons x xs =>
        cases xs with
        | nil => exact ff h
        | cons y xs =>
          cases xs with
          | cons _ _ => exact ff h
          | nil =>
            cases ks with
            | cons _ _ => exact ff h
            | nil =>
              obtain ⟨h, h5⟩ := an (show (chkG c "range" fn && chkE c a x && notStar x && chkE c b y && notStar y) = true from h)
              obtain ⟨h, h4⟩ := an h
              obtain ⟨h, h3⟩ := an h
              obtain ⟨h1, h2⟩ := an h
              obtain ⟨q, rfl, hg, hp⟩ := chkG_inv g h1
              exact i_rng2 (pi_range2 hg (g.blt _ (by decide)) (pa_cons (okE a _ _ g x h2) (pa_cons (okE b _ _ g y h4) pa_nil (star_cons h5)) (star_cons h3)) (by rw [star_cons h3, star_cons h5]; rfl) (by rw [star_cons h5]; rfl))
    | _ => exact ff h
  | .rng3 a b d, c, X, g, t, e, h => by
    cases e with
    | Call fn xs ks p =>
      cases xs with
      | nil => exact ff h
      | cons x xs =>
        cases xs with
        | nil => exact ff h
        | cons y xs =>
          cases xs with
          | nil => exact ff h
          | cons z xs =>
            cases xs with
            | cons _ _ => exact ff h
            | nil =>
              cases ks with
              | cons _ _ => exact ff h
              | nil =>
                obtain ⟨h, h7⟩ := an (show (chkG c "range" fn && chkE c a x && notStar x && chkE c b y && notStar y && chkE c d z && notStar z) = true from h)
                obtain ⟨h, h6⟩ := an h
                obtain ⟨h, h5⟩ := an h
                obtain ⟨h, h4⟩ := an h
                obtain ⟨h, h3⟩ := an h
                obtain ⟨h1, h2⟩ := an h
                obtain ⟨q, rfl, hg, hp⟩ := chkG_inv g h1
                exact i_rng3 (pi_range3 hg (g.blt _ (by decide)) (pa_cons (okE a _ _ g x h2) (pa_cons (okE b _ _ g y h4) (pa_cons (okE d _ _ g z h6) pa_nil (star_cons h7)) (star_cons h5)) (star_cons h3)) (star_cons h3) (by rw [star_cons h5, star_cons h7]; rfl))
    | _ => exact ff h
  | .enum a, c, X, g, t, e, h => by
    cases t with
    | Tuple tes tk tp =>
      cases e with
      | Call fn xs ks p =>
        cases xs with
        | nil => exact ff h
        | cons x xs =>
          cases xs with
          | cons _ _ => exact ff h
          | nil =>
            cases ks with
            | cons _ _ => exact ff h
            | nil =>
              obtain ⟨h, h3⟩ := an (show (chkG c "enumerate" fn && chkE c a x && notStar x) = true from h)
              obtain ⟨h1, h2⟩ := an h
              obtain ⟨q, rfl, hg, hp⟩ := chkG_inv g h1
              exact i_enum (pi_enumA hg (g.blt _ (by decide)) (pa_cons (okE a _ _ g x h2) pa_nil (star_cons h3)) (by rw [star_cons h3]; rfl))
      | _ => exact ff h
    | _ => cases e <;> exact ff h
  | .zip a b, c, X, g, t, e, h => by
    cases t with
    | Tuple tes tk tp =>
      cases e with
      | Call fn xs ks p =>
        cases xs with
        | nil => exact ff h
        | cons x xs =>
          cases xs with
          | nil => exact ff h
          | cons y xs =>
            cases xs with
            | cons _ _ => exact ff h
            | nil =>
              cases ks with
              | cons _ _ => exact ff h
              | nil =>
                obtain ⟨h, h5⟩ := an (show (chkG c "zip" fn && chkE c a x && notStar x && chkE c b y && notStar y) = true from h)
                obtain ⟨h, h4⟩ := an h
                obtain ⟨h, h3⟩ := an h
                obtain ⟨h1, h2⟩ := an h
                obtain ⟨q, rfl, hg, hp⟩ := chkG_inv g h1
                exact i_zip (pi_zipK hg (g.blt _ (by decide)) (pa_cons (okE a _ _ g x h2) (pa_cons (okE b _ _ g y h4) pa_nil (star_cons h5)) (star_cons h3)) (star_cons h3) (by rw [star_cons h5]; rfl))
      | _ => exact ff h
    | _ => cases e <;> exact ff h
  | .zip3 a b d, c, X, g, t, e, h => by
    cases t with
    | Tuple tes tk tp =>
      cases e with
      | Call fn xs ks p =>
        rcases xs with _ | ⟨x, _ | ⟨y, _ | ⟨z, _ | ⟨_, _⟩⟩⟩⟩ <;> rcases ks with _ | ⟨_, _⟩ <;> first | exact ff h | skip
        obtain ⟨h, h7⟩ := an (show (chkG c "zip" fn && chkE c a x && notStar x && chkE c b y && notStar y && chkE c d z && notStar z) = true from h)
        obtain ⟨h, h6⟩ := an h
        obtain ⟨h, h5⟩ := an h
        obtain ⟨h, h4⟩ := an h
        obtain ⟨h, h3⟩ := an h
        obtain ⟨h1, h2⟩ := an h
        obtain ⟨q, rfl, hg, hp⟩ := chkG_inv g h1
        exact i_zip3 (pi_zipK3 hg (g.blt _ (by decide)) (pa_cons (okE a _ _ g x h2) (pa_cons (okE b _ _ g y h4) (pa_cons (okE d _ _ g z h6) pa_nil (star_cons h7)) (star_cons h5)) (star_cons h3)) (star_cons h3) (by rw [star_cons h5, star_cons h7]; rfl))
      | _ => exact ff h
    | _ => cases e <;> exact ff h
  | .rvs a, c, X, g, t, e, h => by
    cases e with
    | Call fn xs ks p =>
      cases xs with
      | nil => exact ff h
      | cons x xs =>
        cases xs with
        | cons _ _ => exact ff h
        | nil =>
          cases ks with
          | cons _ _ => exact ff h
          | nil =>
            obtain ⟨h, h3⟩ := an (show (chkG c "reversed" fn && chkE c a x && notStar x) = true from h)
            obtain ⟨h1, h2⟩ := an h
            obtain ⟨q, rfl, hg, hp⟩ := chkG_inv g h1
            exact i_rvs (RT.pi_revA hg (g.blt _ (by decide)) (okE a _ _ g x h2) (star_cons h3))
    | _ => exact ff h
  | .rvr a b, c, X, g, t, e, h => by
    cases e with
    | Call fn xs ks p =>
      cases xs with
      | nil => exact ff h
      | cons u xs =>
        cases xs with
        | cons _ _ => cases u with
          | Call fm ys ls p2 => cases ys with
            | nil => exact ff h
            | cons _ ys => cases ys with
              | nil => exact ff h
              | cons _ ys => cases ys with
                | nil => cases ls <;> exact ff h
                | cons _ _ => exact ff h
          | _ => exact ff h
        | nil =>
          cases u with
          | Call fm ys ls p2 =>
            cases ys with
            | nil => exact ff h
            | cons x ys =>
              cases ys with
              | nil => exact ff h
              | cons y ys =>
                cases ys with
                | cons _ _ => exact ff h
                | nil =>
                  cases ls with
                  | cons _ _ => exact ff h
                  | nil =>
                    cases ks with
                    | cons _ _ => exact ff h
                    | nil =>
                      obtain ⟨h, h6⟩ := an (show (chkG c "reversed" fn && chkG c "range" fm && chkE c a x && notStar x && chkE c b y && notStar y) = true from h)
                      obtain ⟨h, h5⟩ := an h
                      obtain ⟨h, h4⟩ := an h
                      obtain ⟨h, h3⟩ := an h
                      obtain ⟨h1, h2⟩ := an h
                      obtain ⟨q, rfl, hg, hp⟩ := chkG_inv g h1
                      obtain ⟨q2, rfl, hg2, hp2⟩ := chkG_inv g h2
                      exact i_rvr (pi_revR hg (g.blt _ (by decide)) (prg_2 hg2 (g.blt _ (by decide)) (okE a _ _ g x h3) (okE b _ _ g y h5) (star_cons h4) (star_cons h6) (any1 h6)) rfl)
          | _ => exact ff h
    | _ => exact ff h
  | .rvr1 a, c, X, g, t, e, h => by
    cases e with
    | Call fn xs ks p =>
      cases xs with
      | nil => exact ff h
      | cons u xs =>
        cases xs with
        | cons _ _ => cases u with
          | Call fm ys ls p2 => cases ys with
            | nil => exact ff h
            | cons _ ys => cases ys with
              | nil => cases ls <;> exact ff h
              | cons _ ys => exact ff h
          | _ => exact ff h
        | nil =>
          cases u with
          | Call fm ys ls p2 =>
            cases ys with
            | nil => exact ff h
            | cons x ys =>
              cases ys with
              | cons _ _ => exact ff h
              | nil =>
                cases ls with
                | cons _ _ => exact ff h
                | nil =>
                  cases ks with
                  | cons _ _ => exact ff h
                  | nil =>
                    obtain ⟨h, h4⟩ := an (show (chkG c "reversed" fn && chkG c "range" fm && chkE c a x && notStar x) = true from h)
                    obtain ⟨h, h3⟩ := an h
                    obtain ⟨h1, h2⟩ := an h
                    obtain ⟨q, rfl, hg, hp⟩ := chkG_inv g h1
                    obtain ⟨q2, rfl, hg2, hp2⟩ := chkG_inv g h2
                    exact i_rvr1 (pi_revR hg (g.blt _ (by decide)) (prg_1 hg2 (g.blt _ (by decide)) (okE a _ _ g x h3) (star_cons h4)) rfl)
          | _ => exact ff h
    | _ => exact ff h
end
end
end M61

set_option Elab.async false
set_option linter.all false
set_option autoImplicit false
set_option maxRecDepth 100000
set_option maxHeartbeats 4000000
/-! M5e: the check is sound: statements, defs. -/
namespace M61
open PySem PySem.Spec PyProof.Rows L2
section
variable {c : Cfg} {G : Ctx} {n : Nat} {X : Cx}
theorem s_setF {i : Nat} {ml : ML} {st : Stmt} (h : PS X st (tAsg (rdL X.K ml) (gName i))) : PS X st (rdS X.K fun A ρ C => ml ρ C fun ds ρ1 C1 => A.nx (ρ1.set i (some (.dat (.lst ds)))) C1) :=
  ps_weak h fun D σ H ⟨B, F, ρ, C, A, R, m, k1, _⟩ => ⟨B, F, ρ, C, _, R, m, fun ds ρ1 C1 F1 a vs H1 s1 R1 hl rs n1 n2 n3 no q1 => by
    have s2 : Same F1 (upd F1 a (HO.lst vs)) := same_upd n1
    exact k1 _ C1 _ _ H1 (s1.trans s2) ((R1.frzNew hl n1 n2 n3 no).setDat i (.lst upd_same (rs.mono s2))) q1⟩
theorem nm_ok (g : Good c G n X) {i : Nat} {x : Str} (h1 : decide (c.N[i]? = some x) = true) (h2 : locB c x = true) : X.N.Nodup ∧ X.N[i]? = some x ∧ Loc X.env.scope x ∧ (X.fn x = true ∨ X.env.scope.names.lookup x = some .local) :=
  ⟨by rw [g.hN]; exact g.nd, by rw [g.hN]; exact of_decide_eq_true h1, by rw [g.sc]; exact locB_inv h2, by rw [g.sc]; exact g.fn x h2⟩
theorem sw_no (g : Good c G n X) {x : Str} {px : Pos} {l : Nat} {e : Expr} (h : noSw c x px e = true) : swapsWith e (some (.Name x px)) l X.env = pure false := by
  cases e with
  | ListComp el gs scope p =>
    have h : (decide (c.sc.names.lookup x = some .cell) || !(px.line == p.line)) = true := h
    unfold swapsWith
    show (pure (X.env.blockKind == .function && X.env.kindOf x == some .local && px.line == p.line && !(scope.names.any fun (n, k) => n == x && (k == .local || k == .cell))) : Sem Bool) = pure false
    congr 1
    rw [Bool.or_eq_true] at h
    rcases h with h | h
    · have q : X.env.kindOf x = some .cell := by show X.env.scope.names.lookup x = _; rw [g.sc]; exact of_decide_eq_true h
      rw [q]
      have e : ((some NameKind.cell : Option NameKind) == some .local) = false := by decide
      rw [e, Bool.and_false, Bool.false_and, Bool.false_and]
    · have q : (px.line == p.line) = false := by simpa using h
      rw [q, Bool.and_false, Bool.false_and]
  | _ => first | exact noComp_sw h | exact ff h
theorem unp_sw {t e : Expr} {env : Env} (h : unpOk t e = true) : swappedStores [t] e env = pure none ∧ ∀ l, swapsWith e (some t) l env = pure false := by
  cases t with
  | Tuple ts k p =>
    cases e with
    | Tuple vs k2 p2 =>
      have h : (!(ts.length == 2 || ts.length == 3) || (vs.all (foldedForSure 8) && vs.all notStar)) = true := h
      refine ⟨?_, fun _ => rfl⟩
      unfold swappedStores
      show (if (!(ts.length == 2 || ts.length == 3) || vs.length != ts.length || env.blockKind != .function) = true then pure none else _) = pure none
      rcases Bool.or_eq_true_iff.mp h with h | h
      · rw [h]; rfl
      · obtain ⟨h1, _⟩ := an h
        split
        · rfl
        · dsimp only
          split
          · rfl
          · split
            · rfl
            · first | rfl | (rw [if_pos h1]; first | done | rfl)
    | _ => first | exact ⟨rfl, fun _ => rfl⟩ | exact ff h
  | _ => exact ff h
theorem filterMap_lt {α β : Type} {f : α → Option β} : ∀ {xs : List α}, (∃ x ∈ xs, f x = none) → (xs.filterMap f).length < xs.length
  | [], h => by obtain ⟨x, hx, _⟩ := h; exact absurd hx (by simp)
  | x :: xs, h => by
    rw [List.filterMap_cons]
    have le := List.length_filterMap_le f xs
    cases e : f x with
    | none => show (xs.filterMap f).length < (x :: xs).length; rw [List.length_cons]; omega
    | some y =>
      obtain ⟨z, hz, hn⟩ := h
      rcases List.mem_cons.mp hz with rfl | q
      · rw [hn] at e; cases e
      · have := filterMap_lt ⟨z, q, hn⟩
        show (y :: xs.filterMap f).length < (x :: xs).length
        rw [List.length_cons, List.length_cons]; omega
theorem unpC_sw {c : Cfg} {t e : Expr} {env : Env} (hs : env.scope = c.sc) (h : unpCell c t e = true) : swappedStores [t] e env = pure none ∧ notComp e = true := by
  cases t with
  | Tuple ts k p =>
    cases e with
    | Tuple vs k2 p2 =>
      have h : ts.any (cellNm c) = true := h
      refine ⟨?_, rfl⟩
      obtain ⟨z, hz, hc⟩ := List.any_eq_true.mp h
      unfold swappedStores
      dsimp only
      split
      · rfl
      split
      · rfl
      split
      · rfl
      · rename_i hq
        exfalso
        refine hq ?_
        rw [Bool.or_eq_true]
        refine .inl ?_
        rw [bne_iff_ne]
        refine Nat.ne_of_lt (filterMap_lt ⟨z, hz, ?_⟩)
        cases z with
        | Name x px =>
          have q : env.kindOf x = some .cell := by show env.scope.names.lookup x = _; rw [hs]; exact of_decide_eq_true hc
          have e : ((some NameKind.cell : Option NameKind) == some .local) = false := by decide
          simp only [q, e, Bool.false_and]
          rfl
        | _ => exact ff hc
    | _ => exact ff h
  | _ => exact ff h
theorem parV_inv {vs : List Expr} (h : parV vs = true) : vs.all (foldedForSure 8) = false ∧ vs.all (constantsAlone 8) = false := by
  unfold parV at h
  simp only [Bool.and_eq_true, Bool.not_eq_true'] at h
  exact h
theorem sw_par2 {x y : Str} {px py pt p2 : Pos} {kt k2 : Nat} {a b : Expr} {env : Env} (hk : env.blockKind = .function) (lx : env.kindOf x = some .local) (ly : env.kindOf y = some .local) (hl : (py.line == px.line) = true)
    (hd : ([x, y] : List Str).eraseDups.length = 2) (ha : notStar a = true) (hb : notStar b = true) (hf : [a, b].all (foldedForSure 8) = false) (hc : [a, b].all (constantsAlone 8) = false) :
    swappedStores [.Tuple [.Name x px, .Name y py] kt pt] (.Tuple [a, b] k2 p2) env = pure (some [x, y]) := by
  have hl2 : py.line = px.line := by simpa using hl
  have e0 : (Expr.Name x px).pos.line = px.line := rfl
  unfold swappedStores
  dsimp only
  split
  · rename_i h; exfalso; revert h; simp [hk]
  split
  · rename_i h
    exfalso
    simp only [List.any_cons, List.any_nil, Bool.or_eq_true] at h
    rcases h with h | h | h
    · cases a <;> first | exact absurd h Bool.false_ne_true | cases ha
    · cases b <;> first | exact absurd h Bool.false_ne_true | cases hb
    · exact absurd h Bool.false_ne_true
  simp only [List.filterMap_cons, List.filterMap_nil, lx, ly, hl2, e0, List.head?_cons, Option.map_some, Option.getD_some, beq_self_eq_true, Bool.and_self, if_true, hd]
  split
  · rename_i h; exfalso; revert h; simp
  split
  · rename_i h; rw [hf] at h; cases h
  split
  · rename_i h; rw [hc] at h; cases h
  rfl
theorem sw_par3 {x y z : Str} {px py pz pt p2 : Pos} {kt k2 : Nat} {a b d : Expr} {env : Env} (hk : env.blockKind = .function) (lx : env.kindOf x = some .local) (ly : env.kindOf y = some .local) (lz : env.kindOf z = some .local) (hl : (py.line == px.line) = true) (hl' : (pz.line == px.line) = true)
    (hd : ([x, y, z] : List Str).eraseDups.length = 3) (ha : notStar a = true) (hb : notStar b = true) (hdd : notStar d = true) (hf : [a, b, d].all (foldedForSure 8) = false) (hc : [a, b, d].all (constantsAlone 8) = false) :
    swappedStores [.Tuple [.Name x px, .Name y py, .Name z pz] kt pt] (.Tuple [a, b, d] k2 p2) env = pure (some [x, y, z]) := by
  have hl2 : py.line = px.line := by simpa using hl
  have hl3 : pz.line = px.line := by simpa using hl'
  have e0 : (Expr.Name x px).pos.line = px.line := rfl
  unfold swappedStores
  dsimp only
  split
  · rename_i h; exfalso; revert h; simp [hk]
  split
  · rename_i h
    exfalso
    simp only [List.any_cons, List.any_nil, Bool.or_eq_true] at h
    rcases h with h | h | h | h
    · cases a <;> first | exact absurd h Bool.false_ne_true | cases ha
    · cases b <;> first | exact absurd h Bool.false_ne_true | cases hb
    · cases d <;> first | exact absurd h Bool.false_ne_true | cases hdd
    · exact absurd h Bool.false_ne_true
  simp only [List.filterMap_cons, List.filterMap_nil, lx, ly, lz, hl2, hl3, e0, List.head?_cons, Option.map_some, Option.getD_some, beq_self_eq_true, Bool.and_self, if_true, hd]
  split
  · rename_i h; exfalso; revert h; simp
  split
  · rename_i h; rw [hf] at h; cases h
  split
  · rename_i h; rw [hc] at h; cases h
  rfl
theorem chkEs_notStar : ∀ {as : Es} {es : List Expr}, chkEs c as es = true → ∀ e ∈ es, notStar e = true
  | .nil, [], _, _, h => absurd h (by simp)
  | .nil, _ :: _, h, _, _ => ff h
  | .cons _ _, [], h, _, _ => ff h
  | .cons a as, e :: es, h, x, hx => by
    obtain ⟨h1, h2⟩ := an (show (chkE c a e && notStar e && chkEs c as es) = true from h)
    rcases List.mem_cons.mp hx with rfl | q
    · exact (an h1).2
    · exact chkEs_notStar h2 x q
theorem sub_pg {to ti : TE} {v s : Expr} {p : Pos} (ho : PE X v to) (hi : PE X s ti) (hs : notSlice s = true) : PG X (.Subscript v s p) (gSub to ti rSetL) := by
  refine pg_sub ho hi set_list ?_
  intro u
  cases s <;> first | rfl | exact ff hs
theorem par2_ok {i j : Nat} {es : Es} {st : Stmt} (ok : ∀ xs, chkEs c es xs = true → PA X xs (rdA X.K (denEs G es))) (g : Good c G n X) (h : chkS c (.par2 i j es) st = true) : PS X st (rdS X.K (denS G (.par2 i j es))) := by
  unfold chkS at h
  split at h
  all_goals first | exact absurd h Bool.false_ne_true | (rename_i q; cases q)
  obtain ⟨h, h9⟩ := an h
  obtain ⟨h, h8⟩ := an h
  obtain ⟨h, h7⟩ := an h
  obtain ⟨h, h6⟩ := an h
  obtain ⟨h, h5⟩ := an h
  obtain ⟨h, h4⟩ := an h
  obtain ⟨h, h3⟩ := an h
  obtain ⟨h1, h2⟩ := an h
  have k4 := of_decide_eq_true h4
  have k5 := of_decide_eq_true h5
  obtain ⟨w1, w2⟩ := parV_inv h8
  have st := chkEs_notStar h9
  have hb : X.env.blockKind = .function := by unfold Env.blockKind; rw [g.sc, g.kind]; rfl
  refine s_par2 (ps_par g.calm (by rw [g.hN]; exact g.nd) (by rw [g.hN]; exact of_decide_eq_true h1) (by rw [g.hN]; exact of_decide_eq_true h2) (of_decide_eq_true h3) (by rw [g.sc]; exact k4) (by rw [g.sc]; exact k5) (ok _ h9) ?_)
  exact sw_par2 hb (by show X.env.scope.names.lookup _ = _; rw [g.sc]; exact k4) (by show X.env.scope.names.lookup _ = _; rw [g.sc]; exact k5) h6 (of_decide_eq_true h7) (st _ (by simp)) (st _ (by simp)) w1 w2
theorem par3_ok {i j l : Nat} {es : Es} {st : Stmt} (ok : ∀ xs, chkEs c es xs = true → PA X xs (rdA X.K (denEs G es))) (g : Good c G n X) (h : chkS c (.par3 i j l es) st = true) : PS X st (rdS X.K (denS G (.par3 i j l es))) := by
  unfold chkS at h
  split at h
  all_goals first | exact absurd h Bool.false_ne_true | (rename_i q; cases q)
  obtain ⟨h, h14⟩ := an h
  obtain ⟨h, h13⟩ := an h
  obtain ⟨h, h12⟩ := an h
  obtain ⟨h, h11⟩ := an h
  obtain ⟨h, h10⟩ := an h
  obtain ⟨h, h9⟩ := an h
  obtain ⟨h, h8⟩ := an h
  obtain ⟨h, h7⟩ := an h
  obtain ⟨h, h6⟩ := an h
  obtain ⟨h, h5⟩ := an h
  obtain ⟨h, h4⟩ := an h
  obtain ⟨h, h3⟩ := an h
  obtain ⟨h1, h2⟩ := an h
  have k7 := of_decide_eq_true h7
  have k8 := of_decide_eq_true h8
  have k9 := of_decide_eq_true h9
  obtain ⟨w1, w2⟩ := parV_inv h13
  have st := chkEs_notStar h14
  have hb : X.env.blockKind = .function := by unfold Env.blockKind; rw [g.sc, g.kind]; rfl
  refine s_par3 (ps_par3 g.calm (by rw [g.hN]; exact g.nd) (by rw [g.hN]; exact of_decide_eq_true h1) (by rw [g.hN]; exact of_decide_eq_true h2) (by rw [g.hN]; exact of_decide_eq_true h3) (of_decide_eq_true h4) (of_decide_eq_true h5) (of_decide_eq_true h6) (by rw [g.sc]; exact k7) (by rw [g.sc]; exact k8) (by rw [g.sc]; exact k9) (ok _ h14) ?_)
  exact sw_par3 hb (by show X.env.scope.names.lookup _ = _; rw [g.sc]; exact k7) (by show X.env.scope.names.lookup _ = _; rw [g.sc]; exact k8) (by show X.env.scope.names.lookup _ = _; rw [g.sc]; exact k9) h10 h11 (of_decide_eq_true h12) (st _ (by simp)) (st _ (by simp)) (st _ (by simp)) w1 w2
mutual
theorem okS : ∀ (a : S) (c : Cfg) (X : Cx) (_ : Good c G n X) (st : Stmt), chkS c a st = true → PS X st (rdS X.K (denS G a))
  | .set i a, c, X, g, st, h => by
    cases st with
    | Assign ts e p =>
      cases ts with
      | nil => exact ff h
      | cons t ts =>
        cases ts with
        | cons _ _ => cases t <;> exact ff h
        | nil =>
          cases t with
          | Name x px =>
            obtain ⟨h, h4⟩ := an (show (decide (c.N[i]? = some x) && locB c x && chkE c a e && notComp e) = true from h)
            obtain ⟨h, h3⟩ := an h
            obtain ⟨h1, h2⟩ := an h
            obtain ⟨k1, k2, k3, k4⟩ := nm_ok g h1 h2
            exact s_set (ps_set k1 k2 k3 (okE a c X g e h3) (noComp_sw h4) k4)
          | _ => exact ff h
    | _ => exact ff h
  | .own i l, c, X, g, st, h => by
    cases st with
    | Assign ts e p =>
      cases ts with
      | nil => exact ff h
      | cons t ts =>
        cases ts with
        | cons _ _ => cases t <;> exact ff h
        | nil =>
          cases t with
          | Name x px =>
            obtain ⟨h, h4⟩ := an (show (decide (c.N[i]? = some x) && locB c x && chkL c l e && (swB c x px e || noSw c x px e)) = true from h)
            obtain ⟨h, h3⟩ := an h
            obtain ⟨h1, h2⟩ := an h
            obtain ⟨k1, k2, k3, k4⟩ := nm_ok g h1 h2
            obtain ⟨o1, o2⟩ := okL l c X g e h3
            rcases Bool.or_eq_true_iff.mp h4 with h4 | h4
            · exact s_own (o2 i x px p (of_decide_eq_true h1) h4)
            · exact s_own (ps_set k1 k2 k3 o1 (sw_no g h4) k4)
          | _ => exact ff h
    | _ => exact ff h
  | .setF i l, c, X, g, st, h => by
    cases st with
    | Assign ts e p =>
      cases ts with
      | nil => exact ff h
      | cons t ts =>
        cases ts with
        | cons _ _ => cases t <;> exact ff h
        | nil =>
          cases t with
          | Name x px =>
            obtain ⟨h, h4⟩ := an (show (decide (c.N[i]? = some x) && locB c x && chkL c l e && (swB c x px e || noSw c x px e)) = true from h)
            obtain ⟨h, h3⟩ := an h
            obtain ⟨h1, h2⟩ := an h
            obtain ⟨k1, k2, k3, k4⟩ := nm_ok g h1 h2
            obtain ⟨o1, o2⟩ := okL l c X g e h3
            rcases Bool.or_eq_true_iff.mp h4 with h4 | h4
            · exact s_setF (o2 i x px p (of_decide_eq_true h1) h4)
            · exact s_setF (ps_set k1 k2 k3 o1 (sw_no g h4) k4)
          | _ => exact ff h
    | _ => exact ff h
  | .unp tg a, c, X, g, st, h => by
    cases st with
    | Assign ts e p =>
      cases ts with
      | nil => exact ff h
      | cons t ts =>
        cases ts with
        | cons _ _ => exact ff h
        | nil =>
          obtain ⟨h, h3⟩ := an (show (chkTg c tg t && chkE c a e && (unpOk t e || unpCell c t e)) = true from h)
          obtain ⟨h1, h2⟩ := an h
          obtain ⟨w1, w2⟩ : swappedStores [t] e X.env = pure none ∧ ∀ l, swapsWith e (some t) l X.env = pure false := by
            rcases Bool.or_eq_true_iff.mp h3 with h3 | h3
            · exact unp_sw h3
            · exact ⟨(unpC_sw g.sc h3).1, fun l => noComp_sw (unpC_sw g.sc h3).2⟩
          exact s_unp (ps_asg (okE a c X g e h2) (okTg g tg t h1) (w2 _) w1 (by rw [tg_assign h1]; rfl))
    | _ => exact ff h
  | .par2 i j es, c, X, g, st, h => par2_ok (fun xs q => okEs es c X g xs q) g h
  | .par3 i j l es, c, X, g, st, h => par3_ok (fun xs q => okEs es c X g xs q) g h
  | .aug i o a, c, X, g, st, h => by
    cases st with
    | AugAssign t op e p =>
      cases t with
      | Name x px =>
        obtain ⟨h, h5⟩ := an (show (decide (c.N[i]? = some x) && locB c x && visB c.sc x && chkE c a e && ((decide (o = .add) && decide (op = .Add)) || (decide (o = .sub) && decide (op = .Sub)))) = true from h)
        obtain ⟨h, h4⟩ := an h
        obtain ⟨h, h3⟩ := an h
        obtain ⟨h1, h2⟩ := an h
        obtain ⟨k1, k2, k3, k4⟩ := nm_ok g h1 h2
        rcases Bool.or_eq_true_iff.mp h5 with h5 | h5
        · obtain ⟨q1, q2⟩ := an h5
          have e1 : o = .add := of_decide_eq_true q1
          have e2 : op = .Add := of_decide_eq_true q2
          subst e1 e2
          exact s_augA (ps_aug k1 k2 k3 (okE a c X g e h4) ip_add k4)
        · obtain ⟨q1, q2⟩ := an h5
          have e1 : o = .sub := of_decide_eq_true q1
          have e2 : op = .Sub := of_decide_eq_true q2
          subst e1 e2
          exact s_augS (ps_aug k1 k2 k3 (okE a c X g e h4) ip_sub k4)
      | _ => exact ff h
    | _ => exact ff h
  | .app i a, c, X, g, st, h => by
    cases st with
    | Expr q p =>
      cases q with
      | Call fn xs ks cp =>
        cases fn with
        | Attribute v m ap =>
          cases xs with
          | nil => cases ks <;> exact ff h
          | cons e xs =>
            cases xs with
            | cons _ _ => cases ks <;> exact ff h
            | nil =>
              cases ks with
              | cons _ _ => exact ff h
              | nil =>
                obtain ⟨h, h5⟩ := an (show (chkVar c i v && isNm "append" m && (ap.endLine == cp.line) && chkE c a e && notStar e) = true from h)
                obtain ⟨h, h4⟩ := an h
                obtain ⟨h, h3⟩ := an h
                obtain ⟨h1, h2⟩ := an h
                have e0 : m = Str.ofString "append" := of_decide_eq_true h2
                subst e0
                exact s_app (ps_expr (pe_bm PySem.F.plainAttrs_list PySem.F.slot_list_append PySem.F.type_list_append mt_append (var_pe g h1) (pa_cons (okE a c X g e h4) pa_nil (star_cons h5)) (attr_plain (var_attr h1)) (few1 h5) h3 (star_cons h5) rfl) rfl)
        | _ => cases xs <;> cases ks <;> exact ff h
      | _ => exact ff h
    | _ => exact ff h
  | .ext i a, c, X, g, st, h => by
    cases st with
    | Expr q p =>
      cases q with
      | Call fn xs ks cp =>
        cases fn with
        | Attribute v m ap =>
          cases xs with
          | nil => cases ks <;> exact ff h
          | cons e xs =>
            cases xs with
            | cons _ _ => cases ks <;> exact ff h
            | nil =>
              cases ks with
              | cons _ _ => exact ff h
              | nil =>
                obtain ⟨h, h5⟩ := an (show (chkVar c i v && isNm "extend" m && (ap.endLine == cp.line) && chkE c a e && notStar e) = true from h)
                obtain ⟨h, h4⟩ := an h
                obtain ⟨h, h3⟩ := an h
                obtain ⟨h1, h2⟩ := an h
                have e0 : m = Str.ofString "extend" := of_decide_eq_true h2
                subst e0
                exact s_ext (ps_expr (pe_bm PySem.F.plainAttrs_list PySem.F.slot_list_extend PySem.F.type_list_extend mt_extend (var_pe g h1) (pa_cons (okE a c X g e h4) pa_nil (star_cons h5)) (attr_plain (var_attr h1)) (few1 h5) h3 (star_cons h5) rfl) rfl)
        | _ => cases xs <;> cases ks <;> exact ff h
      | _ => exact ff h
    | _ => exact ff h
  | .oset i k a, c, X, g, st, h => by
    cases st with
    | Assign ts e p =>
      cases ts with
      | nil => exact ff h
      | cons t ts =>
        cases ts with
        | cons _ _ => cases t <;> exact ff h
        | nil =>
          cases t with
          | Subscript v s p2 =>
            obtain ⟨h, h5⟩ := an (show (chkVar c i v && chkE c k s && notSlice s && chkE c a e && notComp e) = true from h)
            obtain ⟨h, h4⟩ := an h
            obtain ⟨h, h3⟩ := an h
            obtain ⟨h1, h2⟩ := an h
            exact s_oset (ps_asg (okE a c X g e h4) (sub_pg (var_pe g h1) (okE k c X g s h2) h3) (by unfold swapsWithSole; exact noComp_sw h5) (by cases e <;> rfl) rfl)
          | _ => exact ff h
    | _ => exact ff h
  | .oaug _ _ _ _, c, X, g, st, h => by cases st <;> exact ff h
  | .dset o k a, c, X, g, st, h => by
    cases st with
    | Assign ts e p =>
      cases ts with
      | nil => exact ff h
      | cons t ts =>
        cases ts with
        | cons _ _ => cases t <;> first | exact ff h | (rename_i v s p2; cases s <;> first | exact ff h | (rename_i w j p3; cases w <;> exact ff h))
        | nil =>
          cases t with
          | Subscript v s p2 =>
            cases s with
            | Constant w j p3 =>
              cases w with
              | str x =>
                obtain ⟨h, h5⟩ := an (show (chkE c o v && isNm k x && chkE c a e && notComp e) = true from h)
                obtain ⟨h, h4⟩ := an h
                obtain ⟨h1, h2⟩ := an h
                have e1 : x = Str.ofString k := of_decide_eq_true h2
                subst e1
                have hu : X.A.units + 1 < cLine := by have := g.room.units; omega
                exact s_dset (ps_asg (okE a c X g e h4) (pg_sub (okE o c X g v h1) pe_str (set_dict hu) (fun u => rfl)) (by unfold swapsWithSole; exact noComp_sw h5) (by cases e <;> rfl) rfl)
              | _ => exact ff h
            | _ => exact ff h
          | _ => exact ff h
    | _ => exact ff h
  | .csub o k a, c, X, g, st, h => by
    cases st with
    | Assign ts e p =>
      cases ts with
      | nil => exact ff h
      | cons t ts =>
        cases ts with
        | cons _ _ => cases t <;> exact ff h
        | nil =>
          cases t with
          | Subscript v s p2 =>
            obtain ⟨h, h5⟩ := an (show (chkE c o v && chkE c k s && notSlice s && chkE c a e && notComp e) = true from h)
            obtain ⟨h, h4⟩ := an h
            obtain ⟨h, h3⟩ := an h
            obtain ⟨h1, h2⟩ := an h
            exact s_csub (ps_asg (okE a c X g e h4) (sub_pg (okE o c X g v h1) (okE k c X g s h2) h3) (by unfold swapsWithSole; exact noComp_sw h5) (by cases e <;> rfl) rfl)
          | _ => exact ff h
    | _ => exact ff h
  | .capp o a, c, X, g, st, h => by
    cases st with
    | Expr q p =>
      cases q with
      | Call fn xs ks cp =>
        cases fn with
        | Attribute v m ap =>
          cases xs with
          | nil => cases ks <;> exact ff h
          | cons e xs =>
            cases xs with
            | cons _ _ => cases ks <;> exact ff h
            | nil =>
              cases ks with
              | cons _ _ => exact ff h
              | nil =>
                obtain ⟨h, h6⟩ := an (show (chkE c o v && attrOk v && isNm "append" m && (ap.endLine == cp.line) && chkE c a e && notStar e) = true from h)
                obtain ⟨h, h5⟩ := an h
                obtain ⟨h, h4⟩ := an h
                obtain ⟨h, h3⟩ := an h
                obtain ⟨h1, h2⟩ := an h
                have e0 : m = Str.ofString "append" := of_decide_eq_true h3
                subst e0
                exact s_capp (ps_expr (pe_bm PySem.F.plainAttrs_list PySem.F.slot_list_append PySem.F.type_list_append mt_append (okE o c X g v h1) (pa_cons (okE a c X g e h5) pa_nil (star_cons h6)) (attr_plain h2) (few1 h6) h4 (star_cons h6) rfl) rfl)
        | _ => cases xs <;> cases ks <;> exact ff h
      | _ => exact ff h
    | _ => exact ff h
  | .cins o k a, c, X, g, st, h => by
    cases st with
    | Expr q p =>
      cases q with
      | Call fn xs ks cp =>
        cases fn with
        | Attribute v m ap =>
          cases xs with
          | nil => cases ks <;> exact ff h
          | cons s xs =>
            cases xs with
            | nil => cases ks <;> exact ff h
            | cons e xs =>
              cases xs with
              | cons _ _ => cases ks <;> exact ff h
              | nil =>
                cases ks with
                | cons _ _ => exact ff h
                | nil =>
                  obtain ⟨h, h8⟩ := an (show (chkE c o v && attrOk v && isNm "insert" m && (ap.endLine == cp.line) && chkE c k s && notStar s && chkE c a e && notStar e) = true from h)
                  obtain ⟨h, h7⟩ := an h
                  obtain ⟨h, h6⟩ := an h
                  obtain ⟨h, h5⟩ := an h
                  obtain ⟨h, h4⟩ := an h
                  obtain ⟨h, h3⟩ := an h
                  obtain ⟨h1, h2⟩ := an h
                  have e0 : m = Str.ofString "insert" := of_decide_eq_true h3
                  subst e0
                  exact s_cins (ps_expr (pe_bm PySem.F.plainAttrs_list PySem.F.slot_list_insert PySem.F.type_list_insert mt_insert (okE o c X g v h1) (pa_cons (okE k c X g s h5) (pa_cons (okE a c X g e h7) pa_nil (star_cons h8)) (star_cons h6)) (attr_plain h2) (few2 h6 h8) h4 (star_cons h6) (any1 h8)) rfl)
        | _ => cases xs <;> cases ks <;> first | exact ff h | (rename_i q _; cases q <;> exact ff h)
      | _ => exact ff h
    | _ => exact ff h
  | .exp a, c, X, g, st, h => by
    cases st with
    | Expr e p =>
      obtain ⟨h1, h2⟩ := an (show (chkE c a e && notComp e) = true from h)
      exact s_exp (ps_expr (okE a c X g e h1) (noComp_sw h2))
    | _ => exact ff h
  | .ife t a b, c, X, g, st, h => by
    cases st with
    | If q x y p =>
      obtain ⟨h, h3⟩ := an (show (chkT c t q && chkSs c a x && chkSs c b y) = true from h)
      obtain ⟨h1, h2⟩ := an h
      exact s_ife (ps_if (okT t c X g q h1) (okSs a c X g x h2) (okSs b c X g y h3))
    | _ => exact ff h
  | .for tg it b, c, X, g, st, h => by
    cases st with
    | For t e bd els p =>
      cases els with
      | cons _ _ => exact ff h
      | nil =>
        obtain ⟨h, h4⟩ := an (show (chkTg c tg t && chkI c it t e && chkSs c b bd && notSet e) = true from h)
        obtain ⟨h, h3⟩ := an h
        obtain ⟨h1, h2⟩ := an h
        exact s_for (ps_for (by rw [g.xe]; exact PassesOwn.never) g.calm (okI it c X g t e h2) (okTg g tg t h1) (okSs b c X g bd h3) (notSet_inv h4))
    | _ => exact ff h
  | .forc tg a b, c, X, g, st, h => by
    cases st with
    | For t e bd els p =>
      cases els with
      | cons _ _ => exact ff h
      | nil =>
        obtain ⟨h, h4⟩ := an (show (chkTg c tg t && chkE c a e && chkSs c b bd && notSet e) = true from h)
        obtain ⟨h, h3⟩ := an h
        obtain ⟨h1, h2⟩ := an h
        exact s_forc (ps_for (by rw [g.xe]; exact PassesOwn.never) g.calm (pi_seq (okE a c X g e h2)) (okTg g tg t h1) (okSs b c X g bd h3) (notSet_inv h4))
    | _ => exact ff h
  | .whl t b, c, X, g, st, h => by
    cases st with
    | While q bd els p =>
      cases els with
      | cons _ _ => exact ff h
      | nil =>
        obtain ⟨h1, h2⟩ := an (show (chkT c t q && chkSs c b bd) = true from h)
        exact s_whl (ps_while (by rw [g.xe]; exact PassesOwn.never) (okT t c X g q h1) (okSs b c X g bd h2))
    | _ => exact ff h
  | .ret a, c, X, g, st, h => by
    cases st with
    | Return e p =>
      cases e with
      | none => exact ff h
      | some e => exact s_ret (ps_ret (okE a c X g e h))
    | _ => exact ff h
  | .ret0, c, X, g, st, h => by
    cases st with
    | Return e p =>
      cases e with
      | some _ => exact ff h
      | none => exact s_ret0 ps_retN
    | _ => exact ff h
  | .pass, c, X, g, st, h => by
    cases st with
    | Pass p => exact s_pass ps_pass
    | _ => exact ff h
  | .brk, c, X, g, st, h => by
    cases st with
    | Break p => exact s_brk ps_break
    | _ => exact ff h
  | .cnt, c, X, g, st, h => by
    cases st with
    | Continue p => exact s_cnt ps_continue
    | _ => exact ff h
  | .nev, c, X, g, st, h => s_nev
theorem okSs : ∀ (a : Ss) (c : Cfg) (X : Cx) (_ : Good c G n X) (sts : List Stmt), chkSs c a sts = true → PSs X sts (rdS X.K (denSs G a))
  | .nil, c, X, g, [], _ => ss_nil
  | .nil, c, X, g, _ :: _, h => ff h
  | .cons _ _, c, X, g, [], h => ff h
  | .cons s ss, c, X, g, st :: sts, h => by
    obtain ⟨h1, h2⟩ := an (show (chkS c s st && chkSs c ss sts) = true from h)
    have q := ss_cons (ms := denS G s) (mss := denSs G ss) (okS s c X g st h1) (okSs ss c X g sts h2)
    exact q
end
end
end M61

set_option Elab.async false
set_option linter.all false
set_option autoImplicit false
set_option maxRecDepth 100000
/-! M6: the defs of a text, by a table. -/
namespace M61
open PySem PySem.Spec PyProof.Rows L2

/-- a def of the table: its text, its names, its inner form -/
structure DefI where
  name : String
  st : Stmt
  N : List Str
  ps : List Str
  d : Def
def scB (N P : List Str) (sc : Scope) : Bool :=
  decide (sc.kind = .function) && !sc.isCoroutine && !sc.isGenerator && decide N.Nodup && decide (N.take P.length = P) && P.all (fun x => decide (sc.names.lookup x = some .local) || decide (sc.names.lookup x = some .cell)) && sc.names.all (fun y => !decide (y.2 = .free))
theorem scB_inv {N P : List Str} {sc : Scope} (h : scB N P sc = true) : FnScope N P sc := by
  unfold scB at h
  simp only [Bool.and_eq_true, Bool.not_eq_true', decide_eq_true_eq, List.all_eq_true, Bool.or_eq_true, decide_eq_false_iff_not] at h
  obtain ⟨⟨⟨⟨⟨⟨h1, h2⟩, h3⟩, h4⟩, h5⟩, h6⟩, h7⟩ := h
  exact ⟨h1, h2, h3, h4, h5, h6, h7⟩
def sigsOf (tab : List DefI) : List (String × Nat) := tab.map fun di => (di.name, di.ps.length)
def defsOf (tab : List DefI) : List (String × Def) := tab.map fun di => (di.name, di.d)
def chkDef (sigs : List (String × Nat)) (cons : List (String × Int)) (txts : List (String × String)) (dcts : List (String × List (String × Int))) (di : DefI) : Bool :=
  scB di.N di.ps (defScope di.st) && decide (di.d.ps = di.ps.length) && decide (di.d.ns = di.N.length) && decide (di.ps.length ≤ di.N.length) &&
  chkSs ⟨di.N, defScope di.st, none, sigs, cons, txts, dcts⟩ di.d.body (defBody di.st)
/-- the def as it stands behind the top -/
structure Has (K : PySem.W.Frag) (mg : Str → Option Value) (di : DefI) (fa : Addr) (fd : FuncData) : Prop where
  fn : Fun K (Str.ofString di.name) (Str.ofString di.name) di.st fa fd
  mgf : mg (Str.ofString di.name) = some (.ref fa)
  bs : Binds K fd di.ps []
/-- what the top has written -/
structure Top (K : PySem.W.Frag) (w : World) (mg : Str → Option Value) (tab : List DefI) (cons : List (String × Int)) (txts : List (String × String)) (dcts : List (String × List (String × Int))) : Prop where
  fns : ∀ di ∈ tab, ∃ fa fd, Has K mg di fa fd
  blt : ∀ b ∈ usedB, mg (Str.ofString b) = none
  con : ∀ x i, cons.contains (x, i) = true → ∃ u, mg (Str.ofString x) = some u ∧ L2.RelV (.int i) u
  txt : ∀ x s, txts.contains (x, s) = true → ∃ u, mg (Str.ofString x) = some u ∧ L2.RelV (.str (Str.ofString s)) u
  dct : ∀ x kvs, dcts.contains (x, kvs) = true → ∃ a, mg (Str.ofString x) = some (.ref a) ∧ WDct K w a kvs
/-- the table, checked -/
structure Tab (tab : List DefI) (cons : List (String × Int)) (txts : List (String × String)) (dcts : List (String × List (String × Int))) : Prop where
  nd : (tab.map fun di => di.name).Nodup
  chk : ∀ di ∈ tab, chkDef (sigsOf tab) cons txts dcts di = true

theorem lookup_defs : ∀ {tab : List DefI}, (tab.map fun di => di.name).Nodup → ∀ {di : DefI}, di ∈ tab → (defsOf tab).lookup di.name = some di.d
  | [], _, _, h => absurd h (by simp)
  | e :: tab, nd, di, h => by
    rw [List.map_cons, List.nodup_cons] at nd
    unfold defsOf
    rw [List.map_cons, List.lookup_cons]
    rcases List.mem_cons.mp h with rfl | h
    · rw [show (di.name == di.name) = true from beq_self_eq_true _]
    · have ne : di.name ≠ e.name := fun q => nd.1 (by rw [← q]; exact List.mem_map.mpr ⟨di, h, rfl⟩)
      rw [show (di.name == e.name) = false from by simpa using ne]
      exact lookup_defs nd.2 h
theorem Cells.sub {K : PySem.W.Frag} {F H : Hp} {C C' : CM} (s : CM.Sub C' C) (c : Cells K F H C) : Cells K F H C' := ⟨c.fh, fun a x h => c.cel a x (s a x h)⟩
theorem Fr.sub {H F H' F' : Hp} {C C' C'' : CM} (s : CM.Sub C'' C') (f : Fr H F C H' F' C') : Fr H F C H' F' C'' := ⟨f.ff, f.fnew, f.frame, fun a c h => f.cnew a c (s a c h), f.stay⟩

section
variable {P : Program} {w : World} {K : PySem.W.Frag} {mg : Str → Option Value} {base : Heap}
theorem start_rel {N : List Str} {F H : Hp} {C : CM} {vs : List V} {ds : List D} {m : Nat} (ce : Cells K F H C) (r : Reps K F vs ds) (hm : m = N.length - ds.length) :
    Rel K ⟨H, F, C⟩ F (start N vs) H (ds.map (fun d => some (.dat d)) ++ List.replicate m none) C where
  len := by
    show _ = (vs.map some ++ List.replicate (N.length - vs.length) none).length
    rw [List.length_append, List.length_append, List.length_map, List.length_map, List.length_replicate, List.length_replicate, r.length, hm]
  ce := ce
  fr := .refl _ _ _
  dat := fun i d h => by
    rw [List.getElem?_append] at h
    split at h
    · rename_i hi
      rw [List.length_map] at hi
      rw [List.getElem?_map] at h
      cases e : ds[i]? with
      | none => rw [e] at h; cases h
      | some d' =>
        rw [e] at h
        cases h
        obtain ⟨v, e2, r2⟩ := r.getD e
        refine ⟨v, ?_, r2⟩
        show (vs.map some ++ _)[i]? = _
        rw [List.getElem?_append_left (by rw [List.length_map, r.length]; exact hi), List.getElem?_map, e2]; rfl
    · rw [List.getElem?_replicate] at h
      split at h <;> cases h
  own := fun i xs h => by
    exfalso
    rw [List.getElem?_append] at h
    split at h
    · rw [List.getElem?_map] at h
      cases e : ds[i]? <;> rw [e] at h <;> cases h
    · rw [List.getElem?_replicate] at h
      split at h <;> cases h
  dis := fun i j xs ys a _ h => by
    exfalso
    rw [List.getElem?_append] at h
    split at h
    · rw [List.getElem?_map] at h
      cases e : ds[i]? <;> rw [e] at h <;> cases h
    · rw [List.getElem?_replicate] at h
      split at h <;> cases h
theorem fn_ok {tab : List DefI} {cons : List (String × Int)} {txts : List (String × String)} {dcts : List (String × List (String × Int))} (T : Tab tab cons txts dcts) (W : Top K w mg tab cons txts dcts) {n : Nat} {ex : Exc → CM → Prop}
    (ih : ∀ di ∈ tab, ∃ fa fd, Has K mg di fa fd ∧ FnG P w K mg base CX0 n fa fd di.ps (spOf K fun ds C Q => Gm (defsOf tab) n di.name ds C Q ex))
    {di : DefI} (hd : di ∈ tab) {fa : Addr} {fd : FuncData} (h : Has K mg di fa fd) :
    FnG P w K mg base CX0 (n + 1) fa fd di.ps (spOf K fun ds C Q => Gm (defsOf tab) (n + 1) di.name ds C Q ex) := by
  have hc := T.chk di hd
  unfold chkDef at hc
  obtain ⟨hc, c5⟩ := an hc
  obtain ⟨hc, c4⟩ := an hc
  obtain ⟨hc, c3⟩ := an hc
  obtain ⟨c1, c2⟩ := an hc
  have e2 := of_decide_eq_true c2
  have e3 := of_decide_eq_true c3
  have S := scB_inv c1
  have lk := lookup_defs T.nd hd
  refine fun_okG h.fn S (fun vs H Q E ⟨F, C, ds, R, ce, rs, g, k⟩ => ?_) fun cdv A outer s H vs Q E gd hr ⟨F, C, ds, R, ce, rs, g, k⟩ => ?_
  · obtain ⟨d, q1, q2, _⟩ := g
    rw [lk] at q1
    cases q1
    rw [rs.length, q2, e2]
  · obtain ⟨d, q1, q2, q3⟩ := g
    rw [lk] at q1
    cases q1
    have G : Good ⟨di.N, defScope di.st, none, sigsOf tab, cons, txts, dcts⟩ ⟨Gm (defsOf tab) n, ex⟩ n (cxOf CX0 P w K mg base di.N (Str.ofString di.name) (defScope di.st) fa cdv A outer s H E).nox := {
      hN := rfl, nd := S.nd, sc := rfl, kind := S.kind, calm := rfl, fn := fun _ _ => .inl rfl, xe := rfl, room := hr, gd := gd, blt := W.blt
      fns := fun f k' q => by
        have q : (f, k') ∈ sigsOf tab := by simpa using q
        obtain ⟨dj, hj, ej⟩ := List.mem_map.mp q
        cases ej
        obtain ⟨fa, fd, h1, h2⟩ := ih dj hj
        exact ⟨fa, fd, dj.ps, h1.mgf, h1.fn.kp, h1.bs, h2⟩
      con := W.con, txt := W.txt, dct := W.dct }
    refine ⟨_, okSs di.d.body _ _ G _ c5, ⟨H, F, C⟩, F, _, C, _, start_rel ce rs (by rw [q2, e3]), q3, fun ρ' C' F' σ' H' s1 R1 q => ?_, fun d C' F' v H' ce1 f1 r1 q => ?_, fun _ _ _ _ _ _ _ q => q.elim, fun _ _ _ _ _ _ _ q => q.elim⟩
    · obtain ⟨C2, s2, q⟩ := q
      exact k .non C2 F' .non H' (R1.ce.sub s2) (R1.fr.sub s2) .non q
    · obtain ⟨C2, s2, q⟩ := q
      exact k d C2 F' v H' (ce1.sub s2) (f1.sub s2) r1 q
/-- every def of the table keeps its promise, so many calls deep -/
theorem tab_ok {tab : List DefI} {cons : List (String × Int)} {txts : List (String × String)} {dcts : List (String × List (String × Int))} (T : Tab tab cons txts dcts) (W : Top K w mg tab cons txts dcts) (ex : Exc → CM → Prop) :
    ∀ (n : Nat) (di : DefI), di ∈ tab → ∃ fa fd, Has K mg di fa fd ∧ FnG P w K mg base CX0 n fa fd di.ps (spOf K fun ds C Q => Gm (defsOf tab) n di.name ds C Q ex)
  | 0, di, hd => by
    obtain ⟨fa, fd, h⟩ := W.fns di hd
    exact ⟨fa, fd, h, fun vs H Q E ⟨F, C, ds, R, ce, rs, g, k⟩ => g.elim, fun A outer s H args us vs Q E _ _ _ _ _ ⟨F, C, ds, R, ce, rs, g, k⟩ => g.elim⟩
  | n + 1, di, hd => by
    obtain ⟨fa, fd, h⟩ := W.fns di hd
    exact ⟨fa, fd, h, fn_ok T W (tab_ok T W ex n) hd h⟩
end
end M61

set_option Elab.async false
set_option linter.all false
set_option autoImplicit false
set_option maxRecDepth 100000
/-! M7: a law from its pure form; rules for loops in pure form. -/
namespace M61
open PySem PySem.Spec PyProof.Rows L2
theorem reps_of_ints (K : PySem.W.Frag) (F : Hp) : ∀ ns : List Int, Reps K F (ns.map V.int) (ns.map D.int)
  | [] => .nil
  | _ :: ns => .cons (.int _) (reps_of_ints K F ns)
theorem start_of {K : PySem.W.Frag} {tb : List (String × Def)} {k : Nat} {H : Hp} {a : Addr} {ns : List Int} (hS : SqL K H a (ns.map V.int))
    (h : Gm tb k "law" [.scr (ns.map .int)] (fun _ => none) (fun d _ => d = .bl true) (fun _ _ => False)) : spOf K (fun ds C Q => Gm tb k "law" ds C Q fun _ _ => False) [.ref a] H (fun v _ => v = .bl true) (fun _ _ _ => False) :=
  ⟨H, fun _ => none, _, _, ⟨Same.refl _, fun _ _ q => nomatch q⟩, .cons (.scr hS (reps_of_ints K H ns)) .nil, h, fun d C' F' v H' _ _ r q => by subst q; cases r; rfl⟩
end M61

set_option Elab.async false
set_option linter.all false
set_option autoImplicit false
set_option maxRecDepth 100000
namespace M61.k35
open PySem PySem.Spec PyProof.Rows L2
def isize_of : Def := ⟨1, 1,
  (.cons (.ret (.tup (.cons (.blt .len (.cons (.var 0) .nil)) (.cons (.blt .len (.cons (.ix (.var 0) (.int 0)) .nil)) .nil))))
  .nil)⟩
def ilaid_over : Def := ⟨1, 3,
  (.cons (.ret (.blt .tuple (.cons (.frz (.comp [1] (.blt .tuple (.cons (.frz (.comp [2] (.ix (.var 2) (.var 1)) (.nm 2) (.seq (.var 0)) .no)) .nil)) (.nm 1) (.rng1 (.blt .len (.cons (.ix (.var 0) (.int 0)) .nil))) .no)) .nil)))
  .nil)⟩
def icheck_fit : Def := ⟨2, 2,
  (.cons (.ife (.cmp .ne (.ix (.call "size_of" (.cons (.var 0) .nil)) (.int 1)) (.ix (.call "size_of" (.cons (.var 1) .nil)) (.int 0))) (.cons .nev
  .nil) .nil)
  .nil)⟩
def ifirst_least : Def := ⟨2, 4,
  (.cons (.set 2 (.int 0))
  (.cons (.for (.nm 3) (.rng2 (.int 1) (.blt .len (.cons (.var 0) .nil))) (.cons (.ife (.cmp .lt (.bin .add (.ix (.var 0) (.var 3)) (.ix (.var 1) (.var 3))) (.bin .add (.ix (.var 0) (.var 2)) (.ix (.var 1) (.var 2)))) (.cons (.set 2 (.var 3))
  .nil) .nil)
  .nil))
  (.cons (.ret (.tup (.cons (.var 2) (.cons (.bin .add (.ix (.var 0) (.var 2)) (.ix (.var 1) (.var 2))) .nil))))
  .nil)))⟩
def iall_leasts : Def := ⟨2, 5,
  (.cons (.exp (.call "check_fit" (.cons (.var 0) (.cons (.var 1) .nil))))
  (.cons (.set 2 (.call "laid_over" (.cons (.var 1) .nil)))
  (.cons (.ret (.blt .tuple (.cons (.frz (.comp [3] (.blt .tuple (.cons (.frz (.comp [4] (.call "first_least" (.cons (.var 3) (.cons (.var 4) .nil))) (.nm 4) (.seq (.var 2)) .no)) .nil)) (.nm 3) (.seq (.var 0)) .no)) .nil)))
  .nil)))⟩
def iproduct : Def := ⟨2, 4,
  (.cons (.ret (.blt .tuple (.cons (.frz (.comp [2] (.blt .tuple (.cons (.frz (.comp [3] (.ix (.var 3) (.int 1)) (.nm 3) (.seq (.var 2)) .no)) .nil)) (.nm 2) (.seq (.call "all_leasts" (.cons (.var 0) (.cons (.var 1) .nil)))) .no)) .nil)))
  .nil)⟩
def icheck_square : Def := ⟨1, 3,
  (.cons (.unp (.tp (.cons (.nm 1) (.cons (.nm 2) .nil))) (.call "size_of" (.cons (.var 0) .nil)))
  (.cons (.ife (.cmp .ne (.var 1) (.var 2)) (.cons .nev
  .nil) .nil)
  .nil))⟩
def ipower : Def := ⟨2, 4,
  (.cons (.exp (.call "check_square" (.cons (.var 0) .nil)))
  (.cons (.set 2 .non)
  (.cons (.set 3 (.var 0))
  (.cons (.whl (.cmp .gt (.var 1) (.int 0)) (.cons (.ife (.and (.cmp .eq (.bin .mod (.var 1) (.int 2)) (.int 1)) (.cmp .is (.var 2) .non)) (.cons (.set 2 (.var 3))
  .nil) (.cons (.ife (.cmp .eq (.bin .mod (.var 1) (.int 2)) (.int 1)) (.cons (.set 2 (.call "product" (.cons (.var 2) (.cons (.var 3) .nil))))
  .nil) .nil)
  .nil))
  (.cons (.set 1 (.bin .fdiv (.var 1) (.int 2)))
  (.cons (.ife (.cmp .gt (.var 1) (.int 0)) (.cons (.set 3 (.call "product" (.cons (.var 3) (.cons (.var 3) .nil))))
  .nil) .nil)
  .nil))))
  (.cons (.ret (.var 2))
  .nil)))))⟩
def i_law_begun : Def := ⟨1, 4,
  (.cons (.set 1 (.cel (.list (.sl (.var 0) .no (.yes (.int 63))))))
  (.cons (.set 2 (.int 29))
  (.cons (.forc (.nm 3) (.var 1) (.cons (.set 2 (.bin .mod (.bin .add (.bin .add (.bin .mul (.var 2) (.int 69621)) (.bin .mod (.var 3) (.int 2147483563))) (.int 3)) (.int 2147483629)))
  .nil))
  (.cons (.ret (.cel (.lit (.cons (.var 1) (.cons (.var 2) (.cons (.int 0) .nil))))))
  .nil))))⟩
def i_law_draw : Def := ⟨2, 5,
  (.cons (.set 2 (.ix (.var 0) (.int 0)))
  (.cons (.ife (.and (.cne (.var 2)) (.cmp .ge (.ix (.var 2) (.int 0)) (.bin .pow (.int 10) (.int 18)))) (.cons (.set 4 (.bin .mod (.ix (.var 2) (.int 0)) (.var 1)))
  (.cons (.csub (.var 2) (.int 0) (.bin .fdiv (.ix (.var 2) (.int 0)) (.var 1)))
  (.cons (.ret (.var 4))
  .nil))) .nil)
  (.cons (.csub (.var 0) (.int 2) (.bin .add (.ix (.var 0) (.int 2)) (.int 1)))
  (.cons (.set 3 (.bin .add (.ix (.var 0) (.int 1)) (.bin .mul (.int 7919) (.ix (.var 0) (.int 2)))))
  (.cons (.ife (.cne (.var 2)) (.cons (.set 3 (.bin .add (.var 3) (.bin .mul (.bin .mod (.cpopA (.var 2) (.int 0)) (.int 2147483587)) (.int 31))))
  .nil) .nil)
  (.cons (.set 3 (.bin .mod (.bin .add (.bin .mul (.var 3) (.int 48271)) (.int 104729)) (.int 2147483647)))
  (.cons (.csub (.var 0) (.int 1) (.bin .mod (.bin .add (.bin .add (.bin .mul (.var 3) (.var 3)) (.bin .mul (.int 16807) (.var 3))) (.ix (.var 0) (.int 2))) (.int 2147483579)))
  (.cons (.ret (.bin .mod (.bin .fdiv (.bin .mod (.bin .mul (.ix (.var 0) (.int 1)) (.int 39373)) (.int 2147483549)) (.int 64)) (.var 1)))
  .nil))))))))⟩
def i_law_far : Def := ⟨2, 4,
  (.cons (.set 2 (.call "_law_draw" (.cons (.var 0) (.cons (.bin .pow (.int 10) (.int 6)) .nil))))
  (.cons (.set 3 (.bin .add (.bin .mul (.call "_law_draw" (.cons (.var 0) (.cons (.int 1000) .nil))) (.bin .pow (.int 10) (.int 6))) (.var 2)))
  (.cons (.ife (.cmp .eq (.call "_law_draw" (.cons (.var 0) (.cons (.int 8) .nil))) (.int 3)) (.cons (.ret (.var 1))
  .nil) .nil)
  (.cons (.ret (.bin .mod (.var 3) (.bin .add (.var 1) (.int 1))))
  .nil))))⟩
def i_law_number : Def := ⟨2, 4,
  (.cons (.set 2 (.ix (.frz (.lit (.cons (.int 1) (.cons (.neg (.int 1)) .nil)))) (.call "_law_draw" (.cons (.var 0) (.cons (.int 2) .nil)))))
  (.cons (.set 3 (.call "_law_draw" (.cons (.var 0) (.cons (.int 7) .nil))))
  (.cons (.ife (.cmp .eq (.var 1) (.int 0)) (.cons (.ret (.int 0))
  .nil) .nil)
  (.cons (.ife (.cmp .eq (.var 1) (.int 1)) (.cons (.ret (.bin .sub (.var 3) (.int 3)))
  .nil) .nil)
  (.cons (.ife (.cmp .eq (.var 1) (.int 2)) (.cons (.ret (.bin .mul (.var 2) (.bin .sub (.bin .pow (.int 10) (.int 9)) (.bin .mod (.var 3) (.int 3)))))
  .nil) .nil)
  (.cons (.ret (.bin .mul (.var 2) (.call "_law_far" (.cons (.var 0) (.cons (.bin .pow (.int 10) (.int 9)) .nil)))))
  .nil))))))⟩
def i_law_size : Def := ⟨2, 3,
  (.cons (.set 2 (.call "_law_draw" (.cons (.var 0) (.cons (.int 6) .nil))))
  (.cons (.ife (.cmp .eq (.var 1) (.int 0)) (.cons (.ret (.bin .add (.int 1) (.var 2)))
  .nil) .nil)
  (.cons (.ret (.bin .sub (.int 12) (.bin .mul (.var 2) (.call "_law_draw" (.cons (.var 0) (.cons (.int 2) .nil))))))
  .nil)))⟩
def i_law_slack : Def := ⟨2, 4,
  (.cons (.set 2 (.call "_law_draw" (.cons (.var 0) (.cons (.int 8) .nil))))
  (.cons (.set 3 (.call "_law_draw" (.cons (.var 0) (.cons (.bin .pow (.int 10) (.int 6)) .nil))))
  (.cons (.ret (.bin .mul (.ix (.frz (.lit (.cons (.int 0) (.cons (.int 0) (.cons (.int 1) (.cons (.int 2) (.cons (.var 3) (.cons (.int 0) (.cons (.var 2) (.cons (.bin .pow (.int 10) (.int 6)) .nil)))))))))) (.var 2)) (.blt .int (.cons (.cmp .gt (.var 1) (.int 0)) .nil))))
  .nil)))⟩
def i_law_edge : Def := ⟨3, 8,
  (.cons (.own 3 (.lit .nil))
  (.cons (.for (.nm 4) (.rng1 (.var 2)) (.cons (.set 5 (.ix (.frz (.lit (.cons (.int 1) (.cons (.neg (.int 1)) .nil)))) (.call "_law_draw" (.cons (.var 0) (.cons (.int 2) .nil)))))
  (.cons (.set 6 (.call "_law_draw" (.cons (.var 0) (.cons (.int 7) .nil))))
  (.cons (.set 7 (.call "_law_far" (.cons (.var 0) (.cons (.bin .mul (.int 4) (.bin .pow (.int 10) (.int 8))) .nil))))
  (.cons (.app 3 (.ix (.frz (.lit (.cons (.bin .sub (.var 6) (.int 3)) (.cons (.int 0) (.cons (.bin .mul (.var 5) (.var 7)) (.cons (.var 6) .nil)))))) (.var 1)))
  .nil)))))
  (.cons (.ret (.mv 3))
  .nil)))⟩
def i_law_bending : Def := ⟨3, 13,
  (.cons (.set 3 (.call "_law_draw" (.cons (.var 0) (.cons (.int 4) .nil))))
  (.cons (.set 4 (.call "_law_draw" (.cons (.var 0) (.cons (.int 4) .nil))))
  (.cons (.set 5 (.call "_law_edge" (.cons (.var 0) (.cons (.var 3) (.cons (.var 1) .nil)))))
  (.cons (.set 6 (.call "_law_edge" (.cons (.var 0) (.cons (.var 3) (.cons (.var 2) .nil)))))
  (.cons (.own 7 (.rep (.frz (.lit (.cons (.int 0) .nil))) (.var 2)))
  (.cons (.own 8 (.lit .nil))
  (.cons (.for (.nm 9) (.rng1 (.var 1)) (.cons (.set 10 (.int 0))
  (.cons (.own 11 (.lit .nil))
  (.cons (.for (.nm 12) (.rng1 (.var 2)) (.cons (.app 11 (.bin .sub (.bin .add (.ix (.var 5) (.var 9)) (.ix (.var 6) (.var 12))) (.oix 7 (.var 12))))
  .nil))
  (.cons (.app 8 (.blt .tuple (.cons (.mv 11) .nil)))
  (.cons (.for (.nm 12) (.rng2 (.int 1) (.var 2)) (.cons (.set 10 (.bin .add (.var 10) (.call "_law_slack" (.cons (.var 0) (.cons (.var 4) .nil)))))
  (.cons (.oset 7 (.var 12) (.bin .add (.oix 7 (.var 12)) (.var 10)))
  .nil)))
  .nil))))))
  (.cons (.ret (.blt .tuple (.cons (.mv 8) .nil)))
  .nil))))))))⟩
def i_law_bends : Def := ⟨1, 6,
  (.cons (.for (.nm 1) (.rng1 (.blt .len (.cons (.var 0) .nil))) (.cons (.for (.nm 2) (.rng2 (.bin .add (.var 1) (.int 1)) (.blt .len (.cons (.var 0) .nil))) (.cons (.setF 3 (.comp [4, 5] (.bin .sub (.var 5) (.var 4)) (.tp (.cons (.nm 4) (.cons (.nm 5) .nil))) (.zip (.ix (.var 0) (.var 1)) (.ix (.var 0) (.var 2))) .no))
  (.cons (.ife (.cmp .ne (.var 3) (.frz (.srr (.var 3)))) (.cons (.ret (.bl false))
  .nil) .nil)
  .nil)))
  .nil))
  (.cons (.ret (.bl true))
  .nil))⟩
def i_law_bounds : Def := ⟨3, 6,
  (.cons (.set 3 (.blt .min (.cons (.frz (.comp [5] (.blt .min (.cons (.var 5) .nil)) (.nm 5) (.seq (.var 0)) .no)) .nil)))
  (.cons (.for (.nm 4) (.rng1 (.blt .len (.cons (.var 0) .nil))) (.cons (.ife (.or (.cmp .lt (.blt .min (.cons (.ix (.var 2) (.var 4)) .nil)) (.bin .mul (.var 3) (.var 1))) (.cmp .gt (.ix (.ix (.var 2) (.var 4)) (.var 4)) (.bin .mul (.ix (.ix (.var 0) (.var 4)) (.var 4)) (.var 1)))) (.cons (.ret (.bl false))
  .nil) .nil)
  .nil))
  (.cons (.ret (.bl true))
  .nil)))⟩
def i_law_apart : Def := ⟨2, 6,
  (.cons (.set 2 (.bin .add (.int 1) (.call "_law_draw" (.cons (.var 0) (.cons (.int 3) .nil)))))
  (.cons (.own 3 (.lit .nil))
  (.cons (.for (.nm 4) (.rng1 (.var 1)) (.cons (.app 3 (.blt .tuple (.cons (.frz (.comp [5] (.bin .mul (.blt .abs (.cons (.call "_law_number" (.cons (.var 0) (.cons (.var 2) .nil))) .nil)) (.blt .int (.cons (.cmp .ne (.var 4) (.var 5)) .nil))) (.nm 5) (.rng1 (.var 1)) .no)) .nil)))
  .nil))
  (.cons (.ret (.blt .tuple (.cons (.mv 3) .nil)))
  .nil))))⟩
def i_law_shortest : Def := ⟨1, 7,
  (.cons (.setF 1 (.comp [5] (.cel (.list (.var 5))) (.nm 5) (.seq (.var 0)) .no))
  (.cons (.set 2 (.blt .len (.cons (.var 0) .nil)))
  (.cons (.for (.nm 3) (.rng1 (.var 2)) (.cons (.for (.nm 4) (.rng1 (.var 2)) (.cons (.for (.nm 6) (.rng1 (.var 2)) (.cons (.csub (.ix (.var 1) (.var 4)) (.var 6) (.blt .min2 (.cons (.ix (.ix (.var 1) (.var 4)) (.var 6)) (.cons (.bin .add (.ix (.ix (.var 1) (.var 4)) (.var 3)) (.ix (.ix (.var 1) (.var 3)) (.var 6))) .nil))))
  .nil))
  .nil))
  .nil))
  (.cons (.ret (.blt .tuple (.cons (.frz (.comp [5] (.blt .tuple (.cons (.var 5) .nil)) (.nm 5) (.seq (.var 1)) .no)) .nil)))
  .nil))))⟩
def ilaw : Def := ⟨1, 12,
  (.cons (.set 1 (.call "_law_begun" (.cons (.var 0) .nil)))
  (.cons (.set 2 (.blt .int (.cons (.cmp .eq (.call "_law_draw" (.cons (.var 1) (.cons (.int 8) .nil))) (.int 5)) .nil)))
  (.cons (.set 3 (.bin .add (.int 1) (.call "_law_draw" (.cons (.var 1) (.cons (.int 6) .nil)))))
  (.cons (.set 4 (.bin .add (.int 1) (.call "_law_draw" (.cons (.var 1) (.cons (.bin .pow (.int 10) (.int 6)) .nil)))))
  (.cons (.set 5 (.call "_law_size" (.cons (.var 1) (.cons (.var 2) .nil))))
  (.cons (.set 6 (.call "_law_bending" (.cons (.var 1) (.cons (.var 5) (.cons (.var 5) .nil)))))
  (.cons (.for (.nm 7) (.seq (.tup (.cons (.var 3) (.cons (.var 4) .nil)))) (.cons (.set 11 (.call "power" (.cons (.var 6) (.cons (.var 7) .nil))))
  (.cons (.ife (.or (.not (.val (.call "_law_bends" (.cons (.var 11) .nil)))) (.not (.val (.call "_law_bounds" (.cons (.var 6) (.cons (.var 7) (.cons (.var 11) .nil))))))) (.cons (.ret (.bl false))
  .nil) .nil)
  .nil)))
  (.cons (.set 8 (.call "_law_apart" (.cons (.var 1) (.cons (.var 5) .nil))))
  (.cons (.set 9 (.call "_law_shortest" (.cons (.var 8) .nil)))
  (.cons (.set 10 (.ix (.frz (.lit (.cons (.bin .pow (.int 10) (.int 6)) (.cons (.var 5) (.cons (.blt .max2 (.cons (.var 5) (.cons (.var 4) .nil))) .nil))))) (.bin .mod (.var 3) (.int 3))))
  (.cons (.ret (.and (.cmp .eq (.call "power" (.cons (.var 8) (.cons (.bin .add (.var 5) (.var 3)) .nil))) (.var 9)) (.cmp .eq (.call "power" (.cons (.var 8) (.cons (.var 10) .nil))) (.var 9))))
  .nil)))))))))))⟩
def tabD : List (String × Def) := [("size_of", isize_of), ("laid_over", ilaid_over), ("check_fit", icheck_fit), ("first_least", ifirst_least), ("all_leasts", iall_leasts), ("product", iproduct), ("check_square", icheck_square), ("power", ipower), ("_law_begun", i_law_begun), ("_law_draw", i_law_draw), ("_law_far", i_law_far), ("_law_number", i_law_number), ("_law_size", i_law_size), ("_law_slack", i_law_slack), ("_law_edge", i_law_edge), ("_law_bending", i_law_bending), ("_law_bends", i_law_bends), ("_law_bounds", i_law_bounds), ("_law_apart", i_law_apart), ("_law_shortest", i_law_shortest), ("law", ilaw)]
end M61.k35

set_option Elab.async false
set_option linter.all false
set_option autoImplicit false
set_option maxRecDepth 100000
namespace M61.k35
open PySem PySem.Spec PyProof.Rows L2
/-! ### the text of k35 -/
def topS (i : Nat) : Stmt := PySem.Challenge.pw_bendtables_k35_whole_powers_of_what_bend.main.body.getD i (.Pass ⟨0, 0, 0, 0⟩)
def dsize_of : DefI := ⟨"size_of", topS 4, ["table"], ["table"], isize_of⟩
def dlaid_over : DefI := ⟨"laid_over", topS 5, ["table", "k", "row"], ["table"], ilaid_over⟩
def dcheck_fit : DefI := ⟨"check_fit", topS 7, ["one", "other"], ["one", "other"], icheck_fit⟩
def dfirst_least : DefI := ⟨"first_least", topS 8, ["row", "column", "found", "j"], ["row", "column"], ifirst_least⟩
def dall_leasts : DefI := ⟨"all_leasts", topS 9, ["one", "other", "columns", "row", "column"], ["one", "other"], iall_leasts⟩
def dproduct : DefI := ⟨"product", topS 10, ["one", "other", "row", "pair"], ["one", "other"], iproduct⟩
def dcheck_square : DefI := ⟨"check_square", topS 12, ["table", "rows", "columns"], ["table"], icheck_square⟩
def dpower : DefI := ⟨"power", topS 13, ["table", "many", "found", "doubled"], ["table", "many"], ipower⟩
def d_law_begun : DefI := ⟨"_law_begun", topS 15, ["_law_script", "_law_cells", "_law_together", "_law_cell"], ["_law_script"], i_law_begun⟩
def d_law_draw : DefI := ⟨"_law_draw", topS 16, ["_law_deck", "_law_most", "_law_cells", "_law_number_here", "_law_digit"], ["_law_deck", "_law_most"], i_law_draw⟩
def d_law_far : DefI := ⟨"_law_far", topS 17, ["_law_deck", "_law_most", "_law_near", "_law_far_here"], ["_law_deck", "_law_most"], i_law_far⟩
def d_law_number : DefI := ⟨"_law_number", topS 18, ["_law_deck", "_law_kind", "_law_sign", "_law_near"], ["_law_deck", "_law_kind"], i_law_number⟩
def d_law_size : DefI := ⟨"_law_size", topS 19, ["_law_deck", "_law_great", "_law_few"], ["_law_deck", "_law_great"], i_law_size⟩
def d_law_slack : DefI := ⟨"_law_slack", topS 20, ["_law_deck", "_law_kind", "_law_few", "_law_far_here"], ["_law_deck", "_law_kind"], i_law_slack⟩
def d_law_edge : DefI := ⟨"_law_edge", topS 21, ["_law_deck", "_law_kind", "_law_many", "_law_found", "_law_k", "_law_sign", "_law_near", "_law_far_here"], ["_law_deck", "_law_kind", "_law_many"], i_law_edge⟩
def d_law_bending : DefI := ⟨"_law_bending", topS 22, ["_law_deck", "_law_rows", "_law_columns", "_law_kind", "_law_flat", "_law_left", "_law_top", "_law_sums", "_law_made", "_law_i", "_law_less", "_law_row", "_law_k"], ["_law_deck", "_law_rows", "_law_columns"], i_law_bending⟩
def d_law_bends : DefI := ⟨"_law_bends", topS 23, ["_law_made", "_law_i", "_law_j", "_law_less", "_law_one", "_law_other"], ["_law_made"], i_law_bends⟩
def d_law_bounds : DefI := ⟨"_law_bounds", topS 24, ["_law_made", "_law_many", "_law_found", "_law_least", "_law_i", "_law_row"], ["_law_made", "_law_many", "_law_found"], i_law_bounds⟩
def d_law_apart : DefI := ⟨"_law_apart", topS 25, ["_law_deck", "_law_many", "_law_kind", "_law_made", "_law_i", "_law_k"], ["_law_deck", "_law_many"], i_law_apart⟩
def d_law_shortest : DefI := ⟨"_law_shortest", topS 26, ["_law_made", "_law_found", "_law_many", "_law_j", "_law_i", "_law_row", "_law_k"], ["_law_made"], i_law_shortest⟩
def dlaw : DefI := ⟨"law", topS 27, ["_law_script", "_law_deck", "_law_great", "_law_few", "_law_far_here", "_law_many", "_law_made", "_law_steps", "_law_other", "_law_due", "_law_more", "_law_found"], ["_law_script"], ilaw⟩
def cons : List (String × Int) := []
def txts : List (String × String) := []
def dcts : List (String × List (String × Int)) := []
def tab : List DefI := [dsize_of, dlaid_over, dcheck_fit, dfirst_least, dall_leasts, dproduct, dcheck_square, dpower, d_law_begun, d_law_draw, d_law_far, d_law_number, d_law_size, d_law_slack, d_law_edge, d_law_bending, d_law_bends, d_law_bounds, d_law_apart, d_law_shortest, dlaw]
theorem csize_of : chkDef (sigsOf tab) cons txts dcts dsize_of = true := by decide +kernel
theorem claid_over : chkDef (sigsOf tab) cons txts dcts dlaid_over = true := by decide +kernel
theorem ccheck_fit : chkDef (sigsOf tab) cons txts dcts dcheck_fit = true := by decide +kernel
theorem cfirst_least : chkDef (sigsOf tab) cons txts dcts dfirst_least = true := by decide +kernel
theorem call_leasts : chkDef (sigsOf tab) cons txts dcts dall_leasts = true := by decide +kernel
theorem cproduct : chkDef (sigsOf tab) cons txts dcts dproduct = true := by decide +kernel
theorem ccheck_square : chkDef (sigsOf tab) cons txts dcts dcheck_square = true := by decide +kernel
theorem cpower : chkDef (sigsOf tab) cons txts dcts dpower = true := by decide +kernel
theorem c_law_begun : chkDef (sigsOf tab) cons txts dcts d_law_begun = true := by decide +kernel
theorem c_law_draw : chkDef (sigsOf tab) cons txts dcts d_law_draw = true := by decide +kernel
theorem c_law_far : chkDef (sigsOf tab) cons txts dcts d_law_far = true := by decide +kernel
theorem c_law_number : chkDef (sigsOf tab) cons txts dcts d_law_number = true := by decide +kernel
theorem c_law_size : chkDef (sigsOf tab) cons txts dcts d_law_size = true := by decide +kernel
theorem c_law_slack : chkDef (sigsOf tab) cons txts dcts d_law_slack = true := by decide +kernel
theorem c_law_edge : chkDef (sigsOf tab) cons txts dcts d_law_edge = true := by decide +kernel
theorem c_law_bending : chkDef (sigsOf tab) cons txts dcts d_law_bending = true := by decide +kernel
theorem c_law_bends : chkDef (sigsOf tab) cons txts dcts d_law_bends = true := by decide +kernel
theorem c_law_bounds : chkDef (sigsOf tab) cons txts dcts d_law_bounds = true := by decide +kernel
theorem c_law_apart : chkDef (sigsOf tab) cons txts dcts d_law_apart = true := by decide +kernel
theorem c_law_shortest : chkDef (sigsOf tab) cons txts dcts d_law_shortest = true := by decide +kernel
theorem claw : chkDef (sigsOf tab) cons txts dcts dlaw = true := by decide +kernel
theorem tab_good : Tab tab cons txts dcts where
  nd := by decide +kernel
  chk := by
    intro di h
    simp only [tab, List.mem_cons, List.not_mem_nil, or_false] at h
    rcases h with rfl | rfl | rfl | rfl | rfl | rfl | rfl | rfl | rfl | rfl | rfl | rfl | rfl | rfl | rfl | rfl | rfl | rfl | rfl | rfl | rfl
    · exact csize_of
    · exact claid_over
    · exact ccheck_fit
    · exact cfirst_least
    · exact call_leasts
    · exact cproduct
    · exact ccheck_square
    · exact cpower
    · exact c_law_begun
    · exact c_law_draw
    · exact c_law_far
    · exact c_law_number
    · exact c_law_size
    · exact c_law_slack
    · exact c_law_edge
    · exact c_law_bending
    · exact c_law_bends
    · exact c_law_bounds
    · exact c_law_apart
    · exact c_law_shortest
    · exact claw
/-! ### what the top has written -/
theorem all_mk {w : World} {K : PySem.W.Frag} {h : Heap} {mg : Str → Option Value} (X : K.In h) (G : h.Ns mainGlobals mg)
    {f0 f1 f2 f3 f4 f5 f6 f7 f8 f9 f10 f11 f12 f13 f14 f15 f16 f17 f18 f19 f20 : Addr} {od0 an0 od1 an1 od2 an2 od3 an3 od4 an4 od5 an5 od6 an6 od7 an7 od8 an8 od9 an9 od10 an10 od11 an11 od12 an12 od13 an13 od14 an14 od15 an15 od16 an16 od17 an17 od18 an18 od19 an19 od20 an20 : Option Addr} {sl0 sl1 sl2 sl3 sl4 sl5 sl6 sl7 sl8 sl9 sl10 sl11 sl12 sl13 sl14 sl15 sl16 sl17 sl18 sl19 sl20 : Array (Option Value)} {oc0 kV0 dc0 pm0 cd0 ct0 oc1 kV1 dc1 pm1 cd1 ct1 oc2 kV2 dc2 pm2 cd2 ct2 oc3 kV3 dc3 pm3 cd3 ct3 oc4 kV4 dc4 pm4 cd4 ct4 oc5 kV5 dc5 pm5 cd5 ct5 oc6 kV6 dc6 pm6 cd6 ct6 oc7 kV7 dc7 pm7 cd7 ct7 oc8 kV8 dc8 pm8 cd8 ct8 oc9 kV9 dc9 pm9 cd9 ct9 oc10 kV10 dc10 pm10 cd10 ct10 oc11 kV11 dc11 pm11 cd11 ct11 oc12 kV12 dc12 pm12 cd12 ct12 oc13 kV13 dc13 pm13 cd13 ct13 oc14 kV14 dc14 pm14 cd14 ct14 oc15 kV15 dc15 pm15 cd15 ct15 oc16 kV16 dc16 pm16 cd16 ct16 oc17 kV17 dc17 pm17 cd17 ct17 oc18 kV18 dc18 pm18 cd18 ct18 oc19 kV19 dc19 pm19 cd19 ct19 oc20 kV20 dc20 pm20 cd20 ct20 : Value}
    (a0 : PySem.W.nsIn K mainGlobals "size_of" = some (some (.ref f0))) (l0 : K.lookup f0 = some ⟨oc0, od0, .func (PySem.W.fnOf "size_of" "size_of" (defArgs dsize_of.st) (defBody dsize_of.st) (defScope dsize_of.st) .none kV0 dc0 pm0 an0 cd0 ct0), sl0⟩) (c0 : PySem.W.codeIn K cd0 "size_of" = true) (k0 : PySem.W.keepIn K (.ref f0) = true)
    (a1 : PySem.W.nsIn K mainGlobals "laid_over" = some (some (.ref f1))) (l1 : K.lookup f1 = some ⟨oc1, od1, .func (PySem.W.fnOf "laid_over" "laid_over" (defArgs dlaid_over.st) (defBody dlaid_over.st) (defScope dlaid_over.st) .none kV1 dc1 pm1 an1 cd1 ct1), sl1⟩) (c1 : PySem.W.codeIn K cd1 "laid_over" = true) (k1 : PySem.W.keepIn K (.ref f1) = true)
    (a2 : PySem.W.nsIn K mainGlobals "check_fit" = some (some (.ref f2))) (l2 : K.lookup f2 = some ⟨oc2, od2, .func (PySem.W.fnOf "check_fit" "check_fit" (defArgs dcheck_fit.st) (defBody dcheck_fit.st) (defScope dcheck_fit.st) .none kV2 dc2 pm2 an2 cd2 ct2), sl2⟩) (c2 : PySem.W.codeIn K cd2 "check_fit" = true) (k2 : PySem.W.keepIn K (.ref f2) = true)
    (a3 : PySem.W.nsIn K mainGlobals "first_least" = some (some (.ref f3))) (l3 : K.lookup f3 = some ⟨oc3, od3, .func (PySem.W.fnOf "first_least" "first_least" (defArgs dfirst_least.st) (defBody dfirst_least.st) (defScope dfirst_least.st) .none kV3 dc3 pm3 an3 cd3 ct3), sl3⟩) (c3 : PySem.W.codeIn K cd3 "first_least" = true) (k3 : PySem.W.keepIn K (.ref f3) = true)
    (a4 : PySem.W.nsIn K mainGlobals "all_leasts" = some (some (.ref f4))) (l4 : K.lookup f4 = some ⟨oc4, od4, .func (PySem.W.fnOf "all_leasts" "all_leasts" (defArgs dall_leasts.st) (defBody dall_leasts.st) (defScope dall_leasts.st) .none kV4 dc4 pm4 an4 cd4 ct4), sl4⟩) (c4 : PySem.W.codeIn K cd4 "all_leasts" = true) (k4 : PySem.W.keepIn K (.ref f4) = true)
    (a5 : PySem.W.nsIn K mainGlobals "product" = some (some (.ref f5))) (l5 : K.lookup f5 = some ⟨oc5, od5, .func (PySem.W.fnOf "product" "product" (defArgs dproduct.st) (defBody dproduct.st) (defScope dproduct.st) .none kV5 dc5 pm5 an5 cd5 ct5), sl5⟩) (c5 : PySem.W.codeIn K cd5 "product" = true) (k5 : PySem.W.keepIn K (.ref f5) = true)
    (a6 : PySem.W.nsIn K mainGlobals "check_square" = some (some (.ref f6))) (l6 : K.lookup f6 = some ⟨oc6, od6, .func (PySem.W.fnOf "check_square" "check_square" (defArgs dcheck_square.st) (defBody dcheck_square.st) (defScope dcheck_square.st) .none kV6 dc6 pm6 an6 cd6 ct6), sl6⟩) (c6 : PySem.W.codeIn K cd6 "check_square" = true) (k6 : PySem.W.keepIn K (.ref f6) = true)
    (a7 : PySem.W.nsIn K mainGlobals "power" = some (some (.ref f7))) (l7 : K.lookup f7 = some ⟨oc7, od7, .func (PySem.W.fnOf "power" "power" (defArgs dpower.st) (defBody dpower.st) (defScope dpower.st) .none kV7 dc7 pm7 an7 cd7 ct7), sl7⟩) (c7 : PySem.W.codeIn K cd7 "power" = true) (k7 : PySem.W.keepIn K (.ref f7) = true)
    (a8 : PySem.W.nsIn K mainGlobals "_law_begun" = some (some (.ref f8))) (l8 : K.lookup f8 = some ⟨oc8, od8, .func (PySem.W.fnOf "_law_begun" "_law_begun" (defArgs d_law_begun.st) (defBody d_law_begun.st) (defScope d_law_begun.st) .none kV8 dc8 pm8 an8 cd8 ct8), sl8⟩) (c8 : PySem.W.codeIn K cd8 "_law_begun" = true) (k8 : PySem.W.keepIn K (.ref f8) = true)
    (a9 : PySem.W.nsIn K mainGlobals "_law_draw" = some (some (.ref f9))) (l9 : K.lookup f9 = some ⟨oc9, od9, .func (PySem.W.fnOf "_law_draw" "_law_draw" (defArgs d_law_draw.st) (defBody d_law_draw.st) (defScope d_law_draw.st) .none kV9 dc9 pm9 an9 cd9 ct9), sl9⟩) (c9 : PySem.W.codeIn K cd9 "_law_draw" = true) (k9 : PySem.W.keepIn K (.ref f9) = true)
    (a10 : PySem.W.nsIn K mainGlobals "_law_far" = some (some (.ref f10))) (l10 : K.lookup f10 = some ⟨oc10, od10, .func (PySem.W.fnOf "_law_far" "_law_far" (defArgs d_law_far.st) (defBody d_law_far.st) (defScope d_law_far.st) .none kV10 dc10 pm10 an10 cd10 ct10), sl10⟩) (c10 : PySem.W.codeIn K cd10 "_law_far" = true) (k10 : PySem.W.keepIn K (.ref f10) = true)
    (a11 : PySem.W.nsIn K mainGlobals "_law_number" = some (some (.ref f11))) (l11 : K.lookup f11 = some ⟨oc11, od11, .func (PySem.W.fnOf "_law_number" "_law_number" (defArgs d_law_number.st) (defBody d_law_number.st) (defScope d_law_number.st) .none kV11 dc11 pm11 an11 cd11 ct11), sl11⟩) (c11 : PySem.W.codeIn K cd11 "_law_number" = true) (k11 : PySem.W.keepIn K (.ref f11) = true)
    (a12 : PySem.W.nsIn K mainGlobals "_law_size" = some (some (.ref f12))) (l12 : K.lookup f12 = some ⟨oc12, od12, .func (PySem.W.fnOf "_law_size" "_law_size" (defArgs d_law_size.st) (defBody d_law_size.st) (defScope d_law_size.st) .none kV12 dc12 pm12 an12 cd12 ct12), sl12⟩) (c12 : PySem.W.codeIn K cd12 "_law_size" = true) (k12 : PySem.W.keepIn K (.ref f12) = true)
    (a13 : PySem.W.nsIn K mainGlobals "_law_slack" = some (some (.ref f13))) (l13 : K.lookup f13 = some ⟨oc13, od13, .func (PySem.W.fnOf "_law_slack" "_law_slack" (defArgs d_law_slack.st) (defBody d_law_slack.st) (defScope d_law_slack.st) .none kV13 dc13 pm13 an13 cd13 ct13), sl13⟩) (c13 : PySem.W.codeIn K cd13 "_law_slack" = true) (k13 : PySem.W.keepIn K (.ref f13) = true)
    (a14 : PySem.W.nsIn K mainGlobals "_law_edge" = some (some (.ref f14))) (l14 : K.lookup f14 = some ⟨oc14, od14, .func (PySem.W.fnOf "_law_edge" "_law_edge" (defArgs d_law_edge.st) (defBody d_law_edge.st) (defScope d_law_edge.st) .none kV14 dc14 pm14 an14 cd14 ct14), sl14⟩) (c14 : PySem.W.codeIn K cd14 "_law_edge" = true) (k14 : PySem.W.keepIn K (.ref f14) = true)
    (a15 : PySem.W.nsIn K mainGlobals "_law_bending" = some (some (.ref f15))) (l15 : K.lookup f15 = some ⟨oc15, od15, .func (PySem.W.fnOf "_law_bending" "_law_bending" (defArgs d_law_bending.st) (defBody d_law_bending.st) (defScope d_law_bending.st) .none kV15 dc15 pm15 an15 cd15 ct15), sl15⟩) (c15 : PySem.W.codeIn K cd15 "_law_bending" = true) (k15 : PySem.W.keepIn K (.ref f15) = true)
    (a16 : PySem.W.nsIn K mainGlobals "_law_bends" = some (some (.ref f16))) (l16 : K.lookup f16 = some ⟨oc16, od16, .func (PySem.W.fnOf "_law_bends" "_law_bends" (defArgs d_law_bends.st) (defBody d_law_bends.st) (defScope d_law_bends.st) .none kV16 dc16 pm16 an16 cd16 ct16), sl16⟩) (c16 : PySem.W.codeIn K cd16 "_law_bends" = true) (k16 : PySem.W.keepIn K (.ref f16) = true)
    (a17 : PySem.W.nsIn K mainGlobals "_law_bounds" = some (some (.ref f17))) (l17 : K.lookup f17 = some ⟨oc17, od17, .func (PySem.W.fnOf "_law_bounds" "_law_bounds" (defArgs d_law_bounds.st) (defBody d_law_bounds.st) (defScope d_law_bounds.st) .none kV17 dc17 pm17 an17 cd17 ct17), sl17⟩) (c17 : PySem.W.codeIn K cd17 "_law_bounds" = true) (k17 : PySem.W.keepIn K (.ref f17) = true)
    (a18 : PySem.W.nsIn K mainGlobals "_law_apart" = some (some (.ref f18))) (l18 : K.lookup f18 = some ⟨oc18, od18, .func (PySem.W.fnOf "_law_apart" "_law_apart" (defArgs d_law_apart.st) (defBody d_law_apart.st) (defScope d_law_apart.st) .none kV18 dc18 pm18 an18 cd18 ct18), sl18⟩) (c18 : PySem.W.codeIn K cd18 "_law_apart" = true) (k18 : PySem.W.keepIn K (.ref f18) = true)
    (a19 : PySem.W.nsIn K mainGlobals "_law_shortest" = some (some (.ref f19))) (l19 : K.lookup f19 = some ⟨oc19, od19, .func (PySem.W.fnOf "_law_shortest" "_law_shortest" (defArgs d_law_shortest.st) (defBody d_law_shortest.st) (defScope d_law_shortest.st) .none kV19 dc19 pm19 an19 cd19 ct19), sl19⟩) (c19 : PySem.W.codeIn K cd19 "_law_shortest" = true) (k19 : PySem.W.keepIn K (.ref f19) = true)
    (a20 : PySem.W.nsIn K mainGlobals "law" = some (some (.ref f20))) (l20 : K.lookup f20 = some ⟨oc20, od20, .func (PySem.W.fnOf "law" "law" (defArgs dlaw.st) (defBody dlaw.st) (defScope dlaw.st) .none kV20 dc20 pm20 an20 cd20 ct20), sl20⟩) (c20 : PySem.W.codeIn K cd20 "law" = true) (k20 : PySem.W.keepIn K (.ref f20) = true)
    (z0 : PySem.W.nsIn K mainGlobals "len" = some none)
    (z1 : PySem.W.nsIn K mainGlobals "tuple" = some none)
    (z2 : PySem.W.nsIn K mainGlobals "sum" = some none)
    (z3 : PySem.W.nsIn K mainGlobals "min" = some none)
    (z4 : PySem.W.nsIn K mainGlobals "max" = some none)
    (z5 : PySem.W.nsIn K mainGlobals "abs" = some none)
    (z6 : PySem.W.nsIn K mainGlobals "int" = some none)
    (z7 : PySem.W.nsIn K mainGlobals "all" = some none)
    (z8 : PySem.W.nsIn K mainGlobals "any" = some none)
    (z9 : PySem.W.nsIn K mainGlobals "isinstance" = some none)
    (z10 : PySem.W.nsIn K mainGlobals "bool" = some none)
    (z11 : PySem.W.nsIn K mainGlobals "list" = some none)
    (z12 : PySem.W.nsIn K mainGlobals "str" = some none)
    (z13 : PySem.W.nsIn K mainGlobals "dict" = some none)
    (z14 : PySem.W.nsIn K mainGlobals "range" = some none)
    (z15 : PySem.W.nsIn K mainGlobals "enumerate" = some none)
    (z16 : PySem.W.nsIn K mainGlobals "zip" = some none)
    (z17 : PySem.W.nsIn K mainGlobals "reversed" = some none)
    (z18 : PySem.W.nsIn K mainGlobals "sorted" = some none)
    (z19 : PySem.W.nsIn K mainGlobals "repr" = some none) :
    Top K w mg tab cons txts dcts := by
  have F0 := fun_mk (st := dsize_of.st) l0 c0 k0
  have b0 := F0.binds (ps := dsize_of.ps) fun _ _ _ _ _ _ us hl => match us, hl with | [_], _ => rfl
  have F1 := fun_mk (st := dlaid_over.st) l1 c1 k1
  have b1 := F1.binds (ps := dlaid_over.ps) fun _ _ _ _ _ _ us hl => match us, hl with | [_], _ => rfl
  have F2 := fun_mk (st := dcheck_fit.st) l2 c2 k2
  have b2 := F2.binds (ps := dcheck_fit.ps) fun _ _ _ _ _ _ us hl => match us, hl with | [_, _], _ => rfl
  have F3 := fun_mk (st := dfirst_least.st) l3 c3 k3
  have b3 := F3.binds (ps := dfirst_least.ps) fun _ _ _ _ _ _ us hl => match us, hl with | [_, _], _ => rfl
  have F4 := fun_mk (st := dall_leasts.st) l4 c4 k4
  have b4 := F4.binds (ps := dall_leasts.ps) fun _ _ _ _ _ _ us hl => match us, hl with | [_, _], _ => rfl
  have F5 := fun_mk (st := dproduct.st) l5 c5 k5
  have b5 := F5.binds (ps := dproduct.ps) fun _ _ _ _ _ _ us hl => match us, hl with | [_, _], _ => rfl
  have F6 := fun_mk (st := dcheck_square.st) l6 c6 k6
  have b6 := F6.binds (ps := dcheck_square.ps) fun _ _ _ _ _ _ us hl => match us, hl with | [_], _ => rfl
  have F7 := fun_mk (st := dpower.st) l7 c7 k7
  have b7 := F7.binds (ps := dpower.ps) fun _ _ _ _ _ _ us hl => match us, hl with | [_, _], _ => rfl
  have F8 := fun_mk (st := d_law_begun.st) l8 c8 k8
  have b8 := F8.binds (ps := d_law_begun.ps) fun _ _ _ _ _ _ us hl => match us, hl with | [_], _ => rfl
  have F9 := fun_mk (st := d_law_draw.st) l9 c9 k9
  have b9 := F9.binds (ps := d_law_draw.ps) fun _ _ _ _ _ _ us hl => match us, hl with | [_, _], _ => rfl
  have F10 := fun_mk (st := d_law_far.st) l10 c10 k10
  have b10 := F10.binds (ps := d_law_far.ps) fun _ _ _ _ _ _ us hl => match us, hl with | [_, _], _ => rfl
  have F11 := fun_mk (st := d_law_number.st) l11 c11 k11
  have b11 := F11.binds (ps := d_law_number.ps) fun _ _ _ _ _ _ us hl => match us, hl with | [_, _], _ => rfl
  have F12 := fun_mk (st := d_law_size.st) l12 c12 k12
  have b12 := F12.binds (ps := d_law_size.ps) fun _ _ _ _ _ _ us hl => match us, hl with | [_, _], _ => rfl
  have F13 := fun_mk (st := d_law_slack.st) l13 c13 k13
  have b13 := F13.binds (ps := d_law_slack.ps) fun _ _ _ _ _ _ us hl => match us, hl with | [_, _], _ => rfl
  have F14 := fun_mk (st := d_law_edge.st) l14 c14 k14
  have b14 := F14.binds (ps := d_law_edge.ps) fun _ _ _ _ _ _ us hl => match us, hl with | [_, _, _], _ => rfl
  have F15 := fun_mk (st := d_law_bending.st) l15 c15 k15
  have b15 := F15.binds (ps := d_law_bending.ps) fun _ _ _ _ _ _ us hl => match us, hl with | [_, _, _], _ => rfl
  have F16 := fun_mk (st := d_law_bends.st) l16 c16 k16
  have b16 := F16.binds (ps := d_law_bends.ps) fun _ _ _ _ _ _ us hl => match us, hl with | [_], _ => rfl
  have F17 := fun_mk (st := d_law_bounds.st) l17 c17 k17
  have b17 := F17.binds (ps := d_law_bounds.ps) fun _ _ _ _ _ _ us hl => match us, hl with | [_, _, _], _ => rfl
  have F18 := fun_mk (st := d_law_apart.st) l18 c18 k18
  have b18 := F18.binds (ps := d_law_apart.ps) fun _ _ _ _ _ _ us hl => match us, hl with | [_, _], _ => rfl
  have F19 := fun_mk (st := d_law_shortest.st) l19 c19 k19
  have b19 := F19.binds (ps := d_law_shortest.ps) fun _ _ _ _ _ _ us hl => match us, hl with | [_], _ => rfl
  have F20 := fun_mk (st := dlaw.st) l20 c20 k20
  have b20 := F20.binds (ps := dlaw.ps) fun _ _ _ _ _ _ us hl => match us, hl with | [_], _ => rfl
  refine ⟨?_, ?_, ?_, ?_, ?_⟩
  · intro di h
    simp only [tab, List.mem_cons, List.not_mem_nil, or_false] at h
    rcases h with rfl | rfl | rfl | rfl | rfl | rfl | rfl | rfl | rfl | rfl | rfl | rfl | rfl | rfl | rfl | rfl | rfl | rfl | rfl | rfl | rfl
    · exact ⟨_, _, F0, PySem.W.mg_of X G a0, b0⟩
    · exact ⟨_, _, F1, PySem.W.mg_of X G a1, b1⟩
    · exact ⟨_, _, F2, PySem.W.mg_of X G a2, b2⟩
    · exact ⟨_, _, F3, PySem.W.mg_of X G a3, b3⟩
    · exact ⟨_, _, F4, PySem.W.mg_of X G a4, b4⟩
    · exact ⟨_, _, F5, PySem.W.mg_of X G a5, b5⟩
    · exact ⟨_, _, F6, PySem.W.mg_of X G a6, b6⟩
    · exact ⟨_, _, F7, PySem.W.mg_of X G a7, b7⟩
    · exact ⟨_, _, F8, PySem.W.mg_of X G a8, b8⟩
    · exact ⟨_, _, F9, PySem.W.mg_of X G a9, b9⟩
    · exact ⟨_, _, F10, PySem.W.mg_of X G a10, b10⟩
    · exact ⟨_, _, F11, PySem.W.mg_of X G a11, b11⟩
    · exact ⟨_, _, F12, PySem.W.mg_of X G a12, b12⟩
    · exact ⟨_, _, F13, PySem.W.mg_of X G a13, b13⟩
    · exact ⟨_, _, F14, PySem.W.mg_of X G a14, b14⟩
    · exact ⟨_, _, F15, PySem.W.mg_of X G a15, b15⟩
    · exact ⟨_, _, F16, PySem.W.mg_of X G a16, b16⟩
    · exact ⟨_, _, F17, PySem.W.mg_of X G a17, b17⟩
    · exact ⟨_, _, F18, PySem.W.mg_of X G a18, b18⟩
    · exact ⟨_, _, F19, PySem.W.mg_of X G a19, b19⟩
    · exact ⟨_, _, F20, PySem.W.mg_of X G a20, b20⟩
  · intro b h
    simp only [usedB, List.mem_cons, List.not_mem_nil, or_false] at h
    rcases h with rfl | rfl | rfl | rfl | rfl | rfl | rfl | rfl | rfl | rfl | rfl | rfl | rfl | rfl | rfl | rfl | rfl | rfl | rfl | rfl
    · exact PySem.W.mg_none_of X G z0
    · exact PySem.W.mg_none_of X G z1
    · exact PySem.W.mg_none_of X G z2
    · exact PySem.W.mg_none_of X G z3
    · exact PySem.W.mg_none_of X G z4
    · exact PySem.W.mg_none_of X G z5
    · exact PySem.W.mg_none_of X G z6
    · exact PySem.W.mg_none_of X G z7
    · exact PySem.W.mg_none_of X G z8
    · exact PySem.W.mg_none_of X G z9
    · exact PySem.W.mg_none_of X G z10
    · exact PySem.W.mg_none_of X G z11
    · exact PySem.W.mg_none_of X G z12
    · exact PySem.W.mg_none_of X G z13
    · exact PySem.W.mg_none_of X G z14
    · exact PySem.W.mg_none_of X G z15
    · exact PySem.W.mg_none_of X G z16
    · exact PySem.W.mg_none_of X G z17
    · exact PySem.W.mg_none_of X G z18
    · exact PySem.W.mg_none_of X G z19
  · intro x i h
    have h : (x, i) ∈ cons := by simpa using h
    simp only [cons, List.mem_cons, List.not_mem_nil, or_false, Prod.mk.injEq] at h
  · intro x i h
    have h : (x, i) ∈ txts := by simpa using h
    simp only [txts, List.mem_cons, List.not_mem_nil, or_false, Prod.mk.injEq] at h
  · intro x i h
    have h : (x, i) ∈ dcts := by simpa using h
    simp only [dcts, List.mem_cons, List.not_mem_nil, or_false, Prod.mk.injEq] at h
theorem law_mk {P : Program} {w : World} {K : PySem.W.Frag} {h : Heap} {mg : Str → Option Value} {fa : Addr} (X : K.In h) (G : h.Ns mainGlobals mg) (hfa : mg "law" = some (.ref fa)) {f : Addr} {od an : Option Addr} {sl : Array (Option Value)} {oc kV dc pm cd ct : Value}
    (T : Top K w mg tab cons txts dcts) (a : PySem.W.nsIn K mainGlobals "law" = some (some (.ref f))) (l : K.lookup f = some ⟨oc, od, .func (PySem.W.fnOf "law" "law" (defArgs dlaw.st) (defBody dlaw.st) (defScope dlaw.st) .none kV dc pm an cd ct), sl⟩) (c : PySem.W.codeIn K cd "law" = true) (k : PySem.W.keepIn K (.ref f) = true) :
    ∃ fd : FuncData, (∀ (s : Shared) (v : Value), BindsTo s fd ⟨[v], []⟩ [("_law_script", v)]) ∧ ∀ base : Heap, K.In base → base.Ns mainGlobals mg → FnG P w K mg base CX0 12 fa fd ["_law_script"] (spOf K fun ds C Q => Gm (defsOf tab) 12 "law" ds C Q fun _ _ => False) := by
  have e := hfa.symm.trans (PySem.W.mg_of X G a)
  cases e
  have F := fun_mk (st := dlaw.st) l c k
  have b := F.binds (ps := dlaw.ps) fun _ _ _ _ _ _ us hl => match us, hl with | [_], _ => rfl
  exact ⟨PySem.W.fnOf "law" "law" (defArgs dlaw.st) (defBody dlaw.st) (defScope dlaw.st) .none kV dc pm an cd ct, fun s v => .of_eq rfl, fun base _ _ => fn_ok (di := dlaw) tab_good T (tab_ok tab_good T _ 11) (by simp [tab]) ⟨F, PySem.W.mg_of X G a, b⟩⟩
theorem law_lift {ds : List D} {C : CM} {P : D → CM → Prop} {ex : Exc → CM → Prop} (h : Gm tabD 12 "law" ds C P ex) : Gm (defsOf tab) 12 "law" ds C P ex := by
  have e : defsOf tab = tabD := rfl
  rw [e]; exact h
end M61.k35

set_option Elab.async false
set_option linter.all false
set_option autoImplicit false
set_option maxRecDepth 100000
/-! P1: rules for the pure form. -/
namespace M61
open PySem PySem.Spec PyProof.Rows L2
theorem varD_0 (d : D) (ρ : Rho) (P : D → Prop) : varD (some (.dat d) :: ρ) 0 P = P d := rfl
theorem varD_s (x : Option Dv) (ρ : Rho) (i : Nat) (P : D → Prop) : varD (x :: ρ) (i + 1) P = varD ρ i P := rfl
theorem varO_0 (xs : List D) (ρ : Rho) (P : List D → Prop) : varO (some (.own xs) :: ρ) 0 P = P xs := rfl
theorem varO_s (x : Option Dv) (ρ : Rho) (i : Nat) (P : List D → Prop) : varO (x :: ρ) (i + 1) P = varO ρ i P := rfl
theorem varL_own0 (xs : List D) (ρ : Rho) (C : CM) (P : List D → Prop) : varL (some (.own xs) :: ρ) C 0 P = P xs := rfl
theorem varL_ref0 (a : Addr) (ρ : Rho) (C : CM) (P : List D → Prop) : varL (some (.dat (.ref a)) :: ρ) C 0 P = ∃ xs, C a = some (.lst xs) ∧ P xs := rfl
theorem varL_s (x : Option Dv) (ρ : Rho) (C : CM) (i : Nat) (P : List D → Prop) : varL (x :: ρ) C (i + 1) P = varL ρ C i P := rfl
theorem varM_own0 (xs : List D) (ρ : Rho) (P : D → Rho → Prop) : varM (some (.own xs) :: ρ) 0 P = P (.lst xs) (some (.dat (.lst xs)) :: ρ) := rfl
theorem varM_dat0 (d : D) (ρ : Rho) (P : D → Rho → Prop) : varM (some (.dat d) :: ρ) 0 P = P d (some (.dat d) :: ρ) := rfl
theorem varM_s (x : Option Dv) (ρ : Rho) (i : Nat) (P : D → Rho → Prop) : varM (x :: ρ) (i + 1) P = varM ρ i fun d ρ' => P d (x :: ρ') := by
  unfold varM
  rw [List.getElem?_cons_succ]
  rfl
theorem bindT_nm (i : Nat) (d : D) (ρ : Rho) (P : Rho → Prop) : bindT (.nm i) d ρ P = P (ρ.set i (some (.dat d))) := rfl
theorem bindT_tp (ts : Tgs) (ds : List D) (ρ : Rho) (P : Rho → Prop) : bindT (.tp ts) (.tup ds) ρ P = bindTs ts ds ρ P := rfl
theorem bindT_tl (ts : Tgs) (ds : List D) (ρ : Rho) (P : Rho → Prop) : bindT (.tp ts) (.lst ds) ρ P = bindTs ts ds ρ P := rfl
theorem bindTs_nil (ρ : Rho) (P : Rho → Prop) : bindTs .nil [] ρ P = P ρ := rfl
theorem bindTs_cons (t : Tg) (ts : Tgs) (d : D) (ds : List D) (ρ : Rho) (P : Rho → Prop) : bindTs (.cons t ts) (d :: ds) ρ P = bindT t d ρ fun ρ' => bindTs ts ds ρ' P := rfl
theorem wipeR_cons (ρ : Rho) (v : Nat) (vs : List Nat) : wipeR ρ (v :: vs) = (wipeR ρ vs).set v none := rfl
theorem wipeR_nil (ρ : Rho) : wipeR ρ [] = ρ := rfl
theorem zero_add' (i : Nat) : 0 + i = i := Nat.zero_add i
theorem if_pos_true {p q : Prop} : (if (true = true) then p else q) = p := rfl
/-- a def's promise, in pure form -/
def Sp (tb : List (String × Def)) (f : String) (k : Nat) (R : List D → CM → (D → CM → Prop) → Prop) : Prop := ∀ n, k ≤ n → ∀ ds C P ex, R ds C P → Gm tb n f ds C P ex
theorem sp_mk {tb : List (String × Def)} {f : String} {d : Def} {k : Nat} {R : List D → CM → (D → CM → Prop) → Prop} (h : tb.lookup f = some d)
    (b : ∀ n, k ≤ n → ∀ ds C P ex, R ds C P → denF ⟨Gm tb n, ex⟩ d ds C P) : Sp tb f (k + 1) R := fun n hn ds C P ex r => by
  obtain ⟨m, rfl⟩ : ∃ m, n = m + 1 := ⟨n - 1, by omega⟩
  exact ⟨d, h, b m (by omega) ds C P ex r⟩
theorem Sp.mono {tb : List (String × Def)} {f : String} {k j : Nat} {R : List D → CM → (D → CM → Prop) → Prop} (h : Sp tb f k R) (q : k ≤ j) : Sp tb f j R := fun n hn => h n (Nat.le_trans q hn)
theorem sub_refl (C : CM) : CM.Sub C C := fun _ _ h => h
/-- a loop by what holds behind so many turns -/
theorem for_inv {tg : Tg} {body : AEnds → Rho → CM → Prop} {A : AEnds} (I : List D → Rho → CM → Prop) {ds : List D} {ρ : Rho} {C : CM} (h0 : I [] ρ C)
    (step : ∀ done d rest ρ C, ds = done ++ d :: rest → I done ρ C → ∀ nx : Rho → CM → Prop, (∀ ρ' C', I (done ++ [d]) ρ' C' → nx ρ' C') → bindT tg d ρ fun ρ1 => body { A with nx := nx, ct := nx, bk := A.nx } ρ1 C)
    (hend : ∀ ρ C, I ds ρ C → A.nx ρ C) : forGo tg body A ds ρ C := by
  have key : ∀ (rest done : List D) (ρ : Rho) (C : CM), ds = done ++ rest → I done ρ C → forGo tg body A rest ρ C := by
    intro rest
    induction rest with
    | nil => intro done ρ C e i; rw [List.append_nil] at e; subst e; exact hend ρ C i
    | cons d rest ih =>
      intro done ρ C e i
      exact step done d rest ρ C e i _ fun ρ' C' j => ih (done ++ [d]) ρ' C' (by rw [e, List.append_assoc]; rfl) j
  exact key ds [] ρ C rfl h0
theorem whl_inv {t : Rho → CM → (Bool → Rho → CM → Prop) → Prop} {body : AEnds → Rho → CM → Prop} {A : AEnds} (I : Nat → Rho → CM → Prop) {m : Nat} {ρ : Rho} {C : CM} (h0 : I m ρ C)
    (step : ∀ m ρ C, I m ρ C → ∀ nx : Rho → CM → Prop, (∀ m' ρ' C', m' < m → I m' ρ' C' → nx ρ' C') → t ρ C fun b ρ1 C1 => if b = true then body { A with nx := nx, ct := nx, bk := A.nx } ρ1 C1 else A.nx ρ1 C1) :
    ∃ n, whlGo t body A n ρ C := by
  have key : ∀ (n m : Nat) (ρ : Rho) (C : CM), m < n → I m ρ C → whlGo t body A n ρ C := by
    intro n
    induction n with
    | zero => intro m ρ C h; omega
    | succ n ih => intro m ρ C h i; exact step m ρ C i _ fun m' ρ' C' q j => ih m' ρ' C' (by omega) j
  exact ⟨m + 1, key (m + 1) m ρ C (by omega) h0⟩
/-- a comprehension by what holds behind so many turns -/
theorem comp_inv {turn : D → CM → (Option D → CM → Prop) → Prop} (I : List D → List D → CM → Prop) {ds : List D} {C : CM} {P : List D → CM → Prop} (h0 : I [] [] C)
    (step : ∀ done d rest acc C, ds = done ++ d :: rest → I done acc C → acc.length < sizeLine ∧ ∀ K : Option D → CM → Prop, (∀ y C', I (done ++ [d]) (acc ++ [y]) C' → K (some y) C') → (∀ C', I (done ++ [d]) acc C' → K none C') → turn d C K)
    (hend : ∀ acc C, I ds acc C → P acc C) : compGo turn ds [] C P := by
  have key : ∀ (rest done acc : List D) (C : CM), ds = done ++ rest → I done acc C → compGo turn rest acc C P := by
    intro rest
    induction rest with
    | nil => intro done acc C e i; rw [List.append_nil] at e; subst e; exact hend acc C i
    | cons d rest ih =>
      intro done acc C e i
      obtain ⟨h1, h2⟩ := step done d rest acc C e i
      exact h2 _ (fun y C' j => ⟨h1, ih (done ++ [d]) _ C' (by rw [e, List.append_assoc]; rfl) j⟩) (fun C' j => ih (done ++ [d]) _ C' (by rw [e, List.append_assoc]; rfl) j)
  exact key ds [] [] C rfl h0
/-- one element for each, no cell is touched -/
theorem comp_map {turn : D → CM → (Option D → CM → Prop) → Prop} (f : D → D) {ds acc : List D} {C : CM} {P : List D → CM → Prop} (hl : acc.length + ds.length ≤ sizeLine)
    (step : ∀ d ∈ ds, ∀ K : Option D → CM → Prop, K (some (f d)) C → turn d C K) (hend : P (acc ++ ds.map f) C) : compGo turn ds acc C P := by
  induction ds generalizing acc with
  | nil => rw [List.map_nil, List.append_nil] at hend; exact hend
  | cons d ds ih =>
    rw [List.length_cons] at hl
    refine step d List.mem_cons_self _ ⟨by omega, ih (by rw [List.length_append, List.length_singleton]; omega) (fun e h => step e (List.mem_cons_of_mem _ h)) ?_⟩
    rw [List.append_assoc]; exact hend
/-- .. some of them -/
theorem comp_filter {turn : D → CM → (Option D → CM → Prop) → Prop} (p : D → Bool) (f : D → D) {ds acc : List D} {C : CM} {P : List D → CM → Prop} (hl : acc.length + ds.length ≤ sizeLine)
    (step : ∀ d ∈ ds, ∀ K : Option D → CM → Prop, K (if p d = true then some (f d) else none) C → turn d C K) (hend : P (acc ++ (ds.filter p).map f) C) : compGo turn ds acc C P := by
  induction ds generalizing acc with
  | nil => rw [List.filter_nil, List.map_nil, List.append_nil] at hend; exact hend
  | cons d ds ih =>
    rw [List.length_cons] at hl
    refine step d List.mem_cons_self _ ?_
    rw [List.filter_cons] at hend
    cases hp : p d with
    | true =>
      rw [hp] at hend
      exact ⟨by omega, ih (by rw [List.length_append, List.length_singleton]; omega) (fun e h => step e (List.mem_cons_of_mem _ h)) (by rw [List.append_assoc]; exact hend)⟩
    | false =>
      rw [hp] at hend
      exact ih (by omega) (fun e h => step e (List.mem_cons_of_mem _ h)) hend

/-! ### the deck -/
theorem atI_0 {α : Type} (x : α) (xs : List α) : atI (x :: xs) 0 = some x := atI_nat (j := 0) rfl
theorem atI_1 {α : Type} (x y : α) (xs : List α) : atI (x :: y :: xs) 1 = some y := atI_nat (j := 1) rfl
theorem atI_2 {α : Type} (x y z : α) (xs : List α) : atI (x :: y :: z :: xs) 2 = some z := atI_nat (j := 2) rfl
mutual
def D.dep : D → Nat
  | .non => 0
  | .bl _ => 0
  | .int _ => 0
  | .str _ => 0
  | .tup xs => D.deps xs + 1
  | .lst xs => D.deps xs + 1
  | .ref _ => 0
  | .scr _ => 0
  | .dic => 0
def D.deps : List D → Nat
  | [] => 0
  | x :: xs => max (D.dep x) (D.deps xs)
end
mutual
def D.can : D → Bool
  | .str x => PyData.canLay0 (.str x)
  | .tup xs => D.cans xs
  | .lst xs => D.cans xs
  | .non => true
  | .bl _ => true
  | .int _ => true
  | .ref _ => true
  | .scr _ => true
  | .dic => true
def D.cans : List D → Bool
  | [] => true
  | x :: xs => D.can x && D.cans xs
end
mutual
theorem py_can : ∀ d : D, d.py.canLay0 = d.can
  | .non => rfl
  | .bl _ => rfl
  | .int _ => rfl
  | .str _ => rfl
  | .tup xs => pys_can xs
  | .lst xs => pys_can xs
  | .ref _ => rfl
  | .scr _ => rfl
  | .dic => rfl
theorem pys_can : ∀ xs : List D, PyData.canLayAll0 (D.pys xs) = D.cans xs
  | [] => rfl
  | x :: xs => by
    show (PyData.canLay0 x.py && PyData.canLayAll0 (D.pys xs)) = (D.can x && D.cans xs)
    rw [py_can x, pys_can xs]
end
mutual
theorem py_dep : ∀ d : D, d.py.depth = d.dep
  | .non => rfl
  | .bl _ => rfl
  | .int _ => rfl
  | .str _ => rfl
  | .tup xs => by show PyData.depthAll (D.pys xs) + 1 = D.deps xs + 1; rw [pys_dep xs]
  | .lst xs => by show PyData.depthAll (D.pys xs) + 1 = D.deps xs + 1; rw [pys_dep xs]
  | .ref _ => rfl
  | .scr _ => rfl
  | .dic => rfl
theorem pys_dep : ∀ xs : List D, PyData.depthAll (D.pys xs) = D.deps xs
  | [] => rfl
  | x :: xs => by
    show max (PyData.depth x.py) (PyData.depthAll (D.pys xs)) = max x.dep (D.deps xs)
    rw [py_dep x, pys_dep xs]
end
theorem cmp_of {d : D} (h : d.pure = true) (q : d.dep ≤ 64) (c : d.can = true) : d.Cmp := ⟨h, by
  unfold SeqAt.shaped
  rw [py_can, py_dep, decide_eq_true q, c]; rfl⟩
theorem ints_pure : ∀ xs : List Int, D.pures (xs.map .int) = true
  | [] => rfl
  | x :: xs => by rw [List.map_cons]; show (D.pure (.int x) && D.pures _) = true; rw [ints_pure xs]; rfl
theorem ints_deps : ∀ xs : List Int, D.deps (xs.map .int) = 0
  | [] => rfl
  | x :: xs => by rw [List.map_cons]; show max 0 (D.deps _) = 0; rw [ints_deps xs]; rfl
theorem ints_cans : ∀ xs : List Int, D.cans (xs.map .int) = true
  | [] => rfl
  | x :: xs => by rw [List.map_cons]; show (D.can (.int x) && D.cans _) = true; rw [ints_cans xs]; rfl
theorem ints_Cmp (xs : List Int) : (D.lst (xs.map .int)).Cmp := cmp_of (ints_pure xs) (by show D.deps _ + 1 ≤ 64; rw [ints_deps]; omega) (ints_cans xs)
theorem intst_Cmp (xs : List Int) : (D.tup (xs.map .int)).Cmp := cmp_of (ints_pure xs) (by show D.deps _ + 1 ≤ 64; rw [ints_deps]; omega) (ints_cans xs)
theorem int_Cmp (i : Int) : (D.int i).Cmp := cmp_of rfl (Nat.zero_le _) rfl
theorem bl_Cmp (i : Bool) : (D.bl i).Cmp := cmp_of rfl (Nat.zero_le _) rfl
theorem pair_Cmp (i j : Int) : (D.tup [.int i, .int j]).Cmp := intst_Cmp [i, j]
theorem non_Cmp : D.non.Cmp := cmp_of rfl (Nat.zero_le _) rfl
theorem eqv_int (i j : Int) : (D.int i).eqv (.int j) = decide (i = j) := by
  show (i == j) = _
  by_cases h : i = j <;> simp [h]
theorem eqv_bl (i j : Bool) : (D.bl i).eqv (.bl j) = decide (i = j) := by
  show (i == j) = _
  cases i <;> cases j <;> rfl
theorem eqvAll_ints : ∀ xs ys : List Int, PyData.eqvAll (D.pys (xs.map .int)) (D.pys (ys.map .int)) = decide (xs = ys)
  | [], [] => rfl
  | [], y :: ys => by rw [decide_eq_false (by simp)]; rfl
  | x :: xs, [] => by rw [decide_eq_false (by simp)]; rfl
  | x :: xs, y :: ys => by
    show ((x == y) && PyData.eqvAll (D.pys (xs.map .int)) (D.pys (ys.map .int))) = _
    rw [eqvAll_ints xs ys]
    by_cases h : x = y <;> by_cases q : xs = ys <;> simp [h, q]
theorem eqv_ints (xs ys : List Int) : (D.lst (xs.map .int)).eqv (.lst (ys.map .int)) = decide (xs = ys) := eqvAll_ints xs ys
theorem eqv_intst (xs ys : List Int) : (D.tup (xs.map .int)).eqv (.tup (ys.map .int)) = decide (xs = ys) := eqvAll_ints xs ys
theorem intsOf_map : ∀ xs : List Int, intsOf (xs.map .int) = some xs
  | [] => rfl
  | x :: xs => by
    rw [List.map_cons]
    show (intsOf (xs.map D.int)).map (x :: ·) = _
    rw [intsOf_map xs]; rfl
theorem boolsOf_map : ∀ xs : List Bool, boolsOf (xs.map .bl) = some xs
  | [] => rfl
  | x :: xs => by
    rw [List.map_cons]
    show (boolsOf (xs.map D.bl)).map (x :: ·) = _
    rw [boolsOf_map xs]; rfl

/-! ### operations, case by case -/
section
variable (P : D → Prop) (Pb : Bool → Prop) (C : CM) (i j : Int) (x y : Str) (xs ys : List D) (b c : Bool) (d e : D) (a : Addr) (lo hi : Option Int)
theorem add_i : binR .add (.int i) (.int j) P = P (.int (i + j)) := rfl
theorem add_t : binR .add (.tup xs) (.tup ys) P = (xs.length + ys.length ≤ sizeLine ∧ P (.tup (xs ++ ys))) := rfl
theorem add_l : binR .add (.lst xs) (.lst ys) P = (xs.length + ys.length ≤ sizeLine ∧ P (.lst (xs ++ ys))) := rfl
theorem add_s : binR .add (.str x) (.str y) P = (x.length + y.length ≤ sizeLine ∧ P (.str (x ++ y))) := rfl
theorem add_b (b : Bool) : binR .add (.bl b) (.int j) P = P (.int ((if b = true then 1 else 0) + j)) := rfl
theorem sub_b (b : Bool) : binR .sub (.bl b) (.int j) P = P (.int ((if b = true then 1 else 0) - j)) := rfl
theorem sub_i : binR .sub (.int i) (.int j) P = P (.int (i - j)) := rfl
theorem mul_i : binR .mul (.int i) (.int j) P = (CMul i j ∧ P (.int (i * j))) := rfl
theorem mul_t : binR .mul (.tup xs) (.int j) P = (-1000 ≤ j ∧ j ≤ 1000 ∧ xs.length ≤ 1000 ∧ P (.tup (List.replicate j.toNat xs).flatten)) := rfl
theorem mul_l : binR .mul (.lst xs) (.int j) P = (-(2 ^ 63) ≤ j ∧ j < 2 ^ 63 ∧ xs.length * j.toNat ≤ sizeLine ∧ P (.lst (List.replicate j.toNat xs).flatten)) := rfl
theorem fdiv_i : binR .fdiv (.int i) (.int j) P = (CDiv i j ∧ P (.int (i / j))) := rfl
theorem mod_i : binR .mod (.int i) (.int j) P = (0 < j ∧ P (.int (i % j))) := rfl
theorem pow_i : binR .pow (.int i) (.int j) P = (CPow i j ∧ P (.int (i ^ j.toNat))) := rfl
theorem shl_i : binR .shl (.int i) (.int j) P = (CPow i j ∧ P (.int (i * 2 ^ j.toNat))) := rfl
theorem eq_r : cmpR .eq d e Pb = (d.Cmp ∧ e.Cmp ∧ Pb (d.eqv e)) := by cases d <;> cases e <;> rfl
theorem ne_r : cmpR .ne d e Pb = (d.Cmp ∧ e.Cmp ∧ Pb (!d.eqv e)) := by cases d <;> cases e <;> rfl
theorem inn_t : cmpR .inn d (.tup ys) Pb = (d.flat = true ∧ ys.all D.flat = true ∧ Pb (ys.any fun z => z.eqv d)) := by cases d <;> rfl
theorem nin_t : cmpR .nin d (.tup ys) Pb = (d.flat = true ∧ ys.all D.flat = true ∧ Pb (!ys.any fun z => z.eqv d)) := by cases d <;> rfl
theorem inn_l : cmpR .inn d (.lst ys) Pb = (d.Cmp ∧ (D.lst ys).Cmp ∧ Pb (ys.any fun z => z.eqv d)) := by cases d <;> rfl
theorem nin_l : cmpR .nin d (.lst ys) Pb = (d.Cmp ∧ (D.lst ys).Cmp ∧ Pb (!ys.any fun z => z.eqv d)) := by cases d <;> rfl
theorem lt_r : cmpR .lt (.int i) (.int j) Pb = Pb (decide (i < j)) := rfl
theorem lt_tt : cmpR .lt (.tup xs) (.tup ys) Pb = ∃ ns ms, intsOf xs = some ns ∧ intsOf ys = some ms ∧ Pb (HT.lexLt ns ms) := rfl
theorem le_r : cmpR .le (.int i) (.int j) Pb = Pb (decide (i ≤ j)) := rfl
theorem gt_r : cmpR .gt (.int i) (.int j) Pb = Pb (decide (j < i)) := rfl
theorem ge_r : cmpR .ge (.int i) (.int j) Pb = Pb (decide (j ≤ i)) := rfl
theorem is_n : cmpR .is d .non Pb = Pb d.isNon := by cases d <;> rfl
theorem isn_n : cmpR .isn d .non Pb = Pb (!d.isNon) := by cases d <;> rfl
theorem is_b : cmpR .is (.bl b) (.bl c) Pb = Pb (decide (b = c)) := rfl
theorem isn_b : cmpR .isn (.bl b) (.bl c) Pb = Pb (!decide (b = c)) := rfl
theorem sqD_t : sqD (.tup xs) = some xs := rfl
theorem sqD_l : sqD (.lst xs) = some xs := rfl
theorem isNon_n : D.isNon .non = true := rfl
theorem isNon_i : D.isNon (.int i) = false := rfl
theorem isNon_t : D.isNon (.tup xs) = false := rfl
theorem isNon_l : D.isNon (.lst xs) = false := rfl
theorem isNon_b : D.isNon (.bl b) = false := rfl
theorem isNon_s : D.isNon (.str x) = false := rfl
theorem tru_n : truD .non Pb = Pb false := rfl
theorem tru_b : truD (.bl b) Pb = Pb b := rfl
theorem tru_i : truD (.int i) Pb = Pb (i != 0) := rfl
theorem tru_t : truD (.tup xs) Pb = Pb (!xs.isEmpty) := rfl
theorem tru_l : truD (.lst xs) Pb = Pb (!xs.isEmpty) := rfl
theorem ix_t : itemR C (.tup xs) (.int i) P = ∃ d, atI xs i = some d ∧ P d := rfl
theorem ix_l : itemR C (.lst xs) (.int i) P = ∃ d, atI xs i = some d ∧ P d := rfl
theorem ix_c : itemR C (.scr xs) (.int i) P = ∃ d, atI xs i = some d ∧ P d := rfl
theorem ix_r : itemR C (.ref a) (.int i) P = ∃ d, cellAt (C a) (.int i) = some d ∧ P d := rfl
theorem cellAt_l : cellAt (some (.lst xs)) (.int i) = atI xs i := rfl
theorem cellL_l : cellL (some (.lst xs)) = some xs := rfl
theorem lstD_l : lstD C (.lst xs) = some xs := rfl
theorem lstD_r : lstD C (.ref a) = cellL (C a) := rfl
theorem sl_t : sliceR C (.tup xs) lo hi P = P (.tup (cutD xs lo hi)) := rfl
theorem sl_l : sliceR C (.lst xs) lo hi P = P (.lst (cutD xs lo hi)) := rfl
theorem sl_c : sliceR C (.scr xs) lo hi P = P (.lst (cutD xs lo hi)) := rfl
theorem sl_r : sliceR C (.ref a) lo hi P = ∃ xs, C a = some (.lst xs) ∧ P (.lst (cutD xs lo hi)) := rfl
theorem rev_t : revR (.tup xs) P = P (.tup xs.reverse) := rfl
theorem rev_l : revR (.lst xs) P = P (.lst xs.reverse) := rfl
theorem len_t : bltR C .len [.tup xs] P = P (.int xs.length) := propext ⟨fun ⟨_, h, q⟩ => by cases h; exact q, fun q => ⟨_, rfl, q⟩⟩
theorem len_l : bltR C .len [.lst xs] P = P (.int xs.length) := propext ⟨fun ⟨_, h, q⟩ => by cases h; exact q, fun q => ⟨_, rfl, q⟩⟩
theorem len_c : bltR C .len [.scr xs] P = P (.int xs.length) := propext ⟨fun ⟨_, h, q⟩ => by cases h; exact q, fun q => ⟨_, rfl, q⟩⟩
theorem len_r : bltR C .len [.ref a] P = ∃ xs, C a = some (.lst xs) ∧ P (.int xs.length) := rfl
theorem tup_t : bltR C .tuple [.tup xs] P = P (.tup xs) := propext ⟨fun ⟨_, h, q⟩ => by cases h; exact q, fun q => ⟨_, rfl, q⟩⟩
theorem tup_l : bltR C .tuple [.lst xs] P = P (.tup xs) := propext ⟨fun ⟨_, h, q⟩ => by cases h; exact q, fun q => ⟨_, rfl, q⟩⟩
theorem tup_r : bltR C .tuple [.ref a] P = ∃ xs, cellL (C a) = some xs ∧ P (.tup xs) := rfl
theorem sum_t : bltR C .sum [.tup xs] P = ∃ ns, intsOf xs = some ns ∧ P (.int ns.sum) := propext ⟨fun ⟨_, ns, h, q⟩ => by cases h; exact ⟨ns, q⟩, fun ⟨ns, q⟩ => ⟨_, ns, rfl, q⟩⟩
theorem sum_l : bltR C .sum [.lst xs] P = ∃ ns, intsOf xs = some ns ∧ P (.int ns.sum) := propext ⟨fun ⟨_, ns, h, q⟩ => by cases h; exact ⟨ns, q⟩, fun ⟨ns, q⟩ => ⟨_, ns, rfl, q⟩⟩
theorem sum_r : bltR C .sum [.ref a] P = ∃ xs ns, cellL (C a) = some xs ∧ intsOf xs = some ns ∧ P (.int ns.sum) := rfl
theorem min_t : bltR C .min [.tup xs] P = ∃ ns, intsOf xs = some ns ∧ ns ≠ [] ∧ P (.int (minI ns)) := propext ⟨fun ⟨_, ns, h, q⟩ => by cases h; exact ⟨ns, q⟩, fun ⟨ns, q⟩ => ⟨_, ns, rfl, q⟩⟩
theorem min_l : bltR C .min [.lst xs] P = ∃ ns, intsOf xs = some ns ∧ ns ≠ [] ∧ P (.int (minI ns)) := propext ⟨fun ⟨_, ns, h, q⟩ => by cases h; exact ⟨ns, q⟩, fun ⟨ns, q⟩ => ⟨_, ns, rfl, q⟩⟩
theorem max_t : bltR C .max [.tup xs] P = ∃ ns, intsOf xs = some ns ∧ ns ≠ [] ∧ P (.int (maxI ns)) := propext ⟨fun ⟨_, ns, h, q⟩ => by cases h; exact ⟨ns, q⟩, fun ⟨ns, q⟩ => ⟨_, ns, rfl, q⟩⟩
theorem max_l : bltR C .max [.lst xs] P = ∃ ns, intsOf xs = some ns ∧ ns ≠ [] ∧ P (.int (maxI ns)) := propext ⟨fun ⟨_, ns, h, q⟩ => by cases h; exact ⟨ns, q⟩, fun ⟨ns, q⟩ => ⟨_, ns, rfl, q⟩⟩
theorem min_2 : bltR C .min2 [.int i, .int j] P = P (.int (if j < i then j else i)) := rfl
theorem max_2 : bltR C .max2 [.int i, .int j] P = P (.int (if j > i then j else i)) := rfl
theorem abs_i : bltR C .abs [.int i] P = P (.int (if i < 0 then -i else i)) := rfl
theorem int_i : bltR C .int [.int i] P = P (.int i) := rfl
theorem int_b : bltR C .int [.bl b] P = P (.int (if b then 1 else 0)) := rfl
theorem all_l : bltR C .all [.lst xs] P = ∃ bs, boolsOf xs = some bs ∧ P (.bl (bs.all id)) := rfl
theorem any_l : bltR C .any [.lst xs] P = ∃ bs, boolsOf xs = some bs ∧ P (.bl (bs.any id)) := rfl
theorem str_ri (i : Int) : bltR C .str [.int i] P = (i.natAbs.log2 < 1920 ∧ P (.str (Str.ofString (toString i)))) := rfl
theorem repr_r : bltR C .repr [d] P = (d.pure = true ∧ d.py.showable = true ∧ d.py.hasDict = false ∧ d.py.depth ≤ 64 ∧ d.py.shown.length ≤ sizeLine ∧ P (.str d.py.shown)) := rfl
theorem min_2d : bltR C .min2d [d, e] P = (D.pures [d, e] = true ∧ PySem.W.AlikeAll (D.pys [d, e]) ∧ PyData.depthAll (D.pys [d, e]) ≤ 64 ∧ ∀ z ∈ [d, e], z.py = PySem.W.minD d.py (D.pys [e]) → P z) := rfl
theorem min_3 (k : Int) : bltR C .min3 [.int i, .int j, .int k] P = P (.int (min (min i j) k)) := rfl
theorem ty_bb : isTy .bool (.bl b) = some true := rfl
theorem ty_bi : isTy .bool (.int i) = some false := rfl
theorem ty_bn : isTy .bool .non = some false := rfl
theorem ty_bt : isTy .bool (.tup xs) = some false := rfl
theorem ty_ss : isTy .str (.str x) = some true := rfl
theorem ty_sn : isTy .str .non = some false := rfl
theorem ty_si : isTy .str (.int i) = some false := rfl
theorem ty_sb : isTy .str (.bl b) = some false := rfl
theorem ty_ii : isTy .int (.int i) = some true := rfl
theorem ty_ib : isTy .int (.bl b) = some true := rfl
theorem ty_in : isTy .int .non = some false := rfl
theorem ty_it : isTy .int (.tup xs) = some false := rfl
theorem ty_tt : isTy .tuple (.tup xs) = some true := rfl
theorem ty_tn : isTy .tuple .non = some false := rfl
theorem ty_ti : isTy .tuple (.int i) = some false := rfl
theorem ty_tb : isTy .tuple (.bl b) = some false := rfl
theorem ty_ll : isTy .list (.lst xs) = some true := rfl
theorem ty_lt : isTy .list (.tup xs) = some false := rfl
theorem ty_is : isTy .int (.str x) = some false := rfl
theorem ty_il : isTy .int (.lst xs) = some false := rfl
theorem ty_bs : isTy .bool (.str x) = some false := rfl
theorem ty_blst : isTy .bool (.lst xs) = some false := rfl
theorem ty_st : isTy .str (.tup xs) = some false := rfl
theorem ty_sl : isTy .str (.lst xs) = some false := rfl
theorem ty_ts : isTy .tuple (.str x) = some false := rfl
theorem ty_tl : isTy .tuple (.lst xs) = some false := rfl
theorem ty_ln : isTy .list .non = some false := rfl
theorem ty_li : isTy .list (.int i) = some false := rfl
theorem ty_lb : isTy .list (.bl b) = some false := rfl
theorem ty_ls : isTy .list (.str x) = some false := rfl
end
theorem sz : sizeLine = 16777216 := by decide
theorem cp1 : CPow 10 1 = True := eq_true (by refine ⟨by decide, by decide, by decide⟩)
theorem cp2 : CPow 10 2 = True := eq_true (by refine ⟨by decide, by decide, by decide⟩)
theorem cp3 : CPow 10 3 = True := eq_true (by refine ⟨by decide, by decide, by decide⟩)
theorem cp4 : CPow 10 4 = True := eq_true (by refine ⟨by decide, by decide, by decide⟩)
theorem cp5 : CPow 10 5 = True := eq_true (by refine ⟨by decide, by decide, by decide⟩)
theorem cp6 : CPow 10 6 = True := eq_true (by refine ⟨by decide, by decide, by decide⟩)
theorem cp7 : CPow 10 7 = True := eq_true (by refine ⟨by decide, by decide, by decide⟩)
theorem cp8 : CPow 10 8 = True := eq_true (by refine ⟨by decide, by decide, by decide⟩)
theorem cp9 : CPow 10 9 = True := eq_true (by refine ⟨by decide, by decide, by decide⟩)
theorem cp10 : CPow 10 10 = True := eq_true (by refine ⟨by decide, by decide, by decide⟩)
theorem cp11 : CPow 10 11 = True := eq_true (by refine ⟨by decide, by decide, by decide⟩)
theorem cp12 : CPow 10 12 = True := eq_true (by refine ⟨by decide, by decide, by decide⟩)
theorem cp15 : CPow 10 15 = True := eq_true (by refine ⟨by decide, by decide, by decide⟩)
theorem cp18 : CPow 10 18 = True := eq_true (by refine ⟨by decide, by decide, by decide⟩)
theorem ixN_31 : ixN 3 1 = some 1 := rfl
theorem ixN_32 : ixN 3 2 = some 2 := rfl
theorem seqIx_0 (n : Nat) : seqIndex? 0 (n + 1) = some 0 := by
  unfold seqIndex?
  simp
theorem cpow_ok {i j : Int} (h : (decide (0 ≤ j) && decide (j ≤ 1000000) && decide (i.natAbs < 2 ^ 64)) = true) : CPow i j := by
  simp only [Bool.and_eq_true, decide_eq_true_eq] at h
  exact ⟨h.1.1, h.1.2, h.2⟩
end M61

set_option Elab.async false
set_option linter.all false
set_option autoImplicit false
set_option maxRecDepth 100000
/-! P2: the deck and its draws. -/
namespace M61
open PySem PySem.Spec PyProof.Rows L2
local macro_rules
  | `(tactic| simp_arith! [$ls,*] $[$loc:location]?) => `(tactic| try simp only [wipeR_cons, wipeR_nil, eq_self, denSs, denS, denE, denT, denEs, denO, denC, denL, denI, bindT_nm, bindT_tp, bindT_tl, bindTs_nil, bindTs_cons, varD_0, varD_s, varM_own0, varM_dat0, varM_s, varO_0, varO_s, varL_own0, varL_ref0, varL_s, sz, cp1, cp2, cp3, cp4, cp5, cp6, cp7, cp8, cp9, cp10, cp11, cp12, cp15, cp18, add_i, add_t, add_l, add_s, add_b, sub_b, sub_i, mul_i, mul_t, mul_l, fdiv_i, mod_i, pow_i, shl_i, eq_r, ne_r, inn_t, nin_t, inn_l, nin_l, lt_r, lt_tt, le_r, gt_r, ge_r, is_n, isn_n, is_b, isn_b, isNon_n, isNon_i, isNon_t, isNon_l, isNon_b, isNon_s, tru_n, tru_b, tru_i, tru_t, tru_l, ix_t, ix_l, ix_c, ix_r, cellAt_l, cellL_l, lstD_l, lstD_r, sqD_t, sqD_l, sl_t, sl_l, sl_c, sl_r, rev_t, rev_l, len_t, len_l, len_c, len_r, tup_t, tup_l, tup_r, sum_t, sum_l, sum_r, min_t, min_l, max_t, max_l, min_2, max_2, min_3, repr_r, str_ri, abs_i, int_i, int_b, all_l, any_l, ty_bb, ty_bi, ty_bn, ty_bt, ty_ss, ty_sn, ty_si, ty_sb, ty_ii, ty_ib, ty_in, ty_it, ty_tt, ty_tn, ty_ti, ty_tb, ty_ll, ty_lt, ty_is, ty_il, ty_bs, ty_blst, ty_st, ty_sl, ty_ts, ty_tl, ty_ln, ty_li, ty_lb, ty_ls, intsOf_map, boolsOf_map, pair_Cmp, int_Cmp, bl_Cmp, non_Cmp, ints_Cmp, intst_Cmp, eqv_int, eqv_bl, eqv_ints, eqv_intst, List.map_cons, List.map_nil, List.replicate_succ, List.replicate_zero, List.cons_append, List.nil_append, List.set_cons_zero, List.set_cons_succ, List.length_cons, List.length_nil, List.getElem?_cons_zero, List.getElem?_cons_succ, List.eraseIdx_cons_zero, Nat.reduceSub, Nat.reduceAdd, Nat.reduceLT, Nat.reduceLeDiff, Nat.reducePow, Nat.reduceEqDiff, Nat.reduceMul, Int.reducePow, Int.reduceToNat, Int.reduceMul, Int.reduceAdd, Int.reduceSub, Int.reduceNeg, Int.reduceLT, Int.reduceLE, Int.reduceEq, Int.reduceBEq, Int.reduceBNe, zero_add', not_true_eq_false, not_false_eq_true, Bool.true_eq_false, false_and, and_false, true_and, and_true, exists_eq_left', exists_and_left, Option.some.injEq, Cell.lst.injEq, Cell.dct.injEq, if_pos_true, reduceIte, Bool.false_eq_true, decide_true, decide_false, Bool.not_true, Bool.not_false, Bool.not_eq_true', Bool.and_true, Bool.true_and, decide_eq_true_eq, decide_eq_false_iff_not, ite_self, List.isEmpty_cons, List.isEmpty_nil, $ls,*] $[$loc]?)
def i_law_draw : Def := ⟨2, 5,
  (.cons (.csub (.var 0) (.int 2) (.bin .add (.ix (.var 0) (.int 2)) (.int 1)))
  (.cons (.set 2 (.ix (.var 0) (.int 0)))
  (.cons (.set 3 (.ix (.var 0) (.int 1)))
  (.cons (.ife (.one 2) (.cons (.set 3 (.cpopA (.var 2) (.int 0)))
  (.cons (.ife (.cmp .ge (.var 3) (.bin .pow (.int 10) (.int 18))) (.cons (.cins (.var 2) (.int 0) (.bin .fdiv (.var 3) (.var 1)))
  (.cons (.ret (.bin .mod (.var 3) (.var 1)))
  .nil)) .nil)
  (.cons (.set 3 (.bin .add (.var 3) (.ix (.var 0) (.int 1))))
  .nil))) .nil)
  (.cons (.set 4 (.bin .mod (.bin .add (.bin .add (.bin .mul (.bin .mod (.var 3) (.int 2147483629)) (.int 48271)) (.bin .mul (.int 7919) (.ix (.var 0) (.int 2)))) (.int 13)) (.int 2147483647)))
  (.cons (.set 4 (.bin .mod (.bin .add (.bin .add (.bin .mul (.var 4) (.var 4)) (.bin .mul (.int 69621) (.var 4))) (.ix (.var 0) (.int 2))) (.int 2147483587)))
  (.cons (.csub (.var 0) (.int 1) (.var 4))
  (.cons (.ret (.bin .mod (.bin .fdiv (.bin .mod (.bin .mul (.var 4) (.bin .add (.var 4) (.int 40692))) (.int 2147483563)) (.int 64)) (.var 1)))
  .nil))))))))⟩
/-- a list deck at a, its numbers at b -/
def Deck (a b : Addr) (C : CM) : Prop := ∃ (xs : List Int) (s c : Int), a ≠ b ∧ C a = some (.lst [.ref b, .int s, .int c]) ∧ C b = some (.lst (xs.map .int)) ∧ xs.length ≤ 63
theorem cmul_mod (t K j : Int) (h : 0 < K) (q : K ≤ 18446744073709551616) : CMul (t % K) j := by
  have h1 := Int.emod_nonneg t (show K ≠ 0 by omega)
  have h2 := Int.emod_lt_of_pos t h
  exact .inl ⟨by omega, by omega⟩
theorem cmul_l (i j : Int) (h : -18446744073709551616 < i ∧ i < 18446744073709551616) : CMul i j := .inl ⟨by omega, by omega⟩
/-- what a draw gives -/
def DrawR (ds : List D) (C : CM) (P : D → CM → Prop) : Prop := ∃ (a b : Addr) (n : Int), ds = [.ref a, .int n] ∧ Deck a b C ∧ 0 < n ∧ n < 1073741824 ∧
  ∀ v C', 0 ≤ v → v < n → Deck a b C' → (∀ e, e ≠ a → e ≠ b → C' e = C e) → P (.int v) C'
theorem draw_ok (G : Ctx) (a b : Addr) (n : Int) (C : CM) (P : D → CM → Prop) (hD : Deck a b C) (h0 : 0 < n) (h1 : n < 1073741824)
    (k : ∀ v C', 0 ≤ v → v < n → Deck a b C' → (∀ e, e ≠ a → e ≠ b → C' e = C e) → P (.int v) C') : denF G i_law_draw [.ref a, .int n] C P := by
  obtain ⟨xs, s, c, hab, ha, hb, hl⟩ := hD
  refine ⟨rfl, ?_⟩
  have hba : ¬ (b = a) := fun e => hab e.symm
  have fin : ∀ (t s' : Int) (C' : CM), C' a = some (.lst [.ref b, .int s', .int (c + 1)]) → (∃ ys : List Int, C' b = some (.lst (ys.map .int)) ∧ ys.length ≤ 63) → (∀ e, e ≠ a → e ≠ b → C' e = C e) → ∃ C'', CM.Sub C'' C' ∧ P (.int (t % n)) C'' :=
    fun t s' C' e1 ⟨ys, e2, e3⟩ e4 => ⟨C', sub_refl _, k _ _ (Int.emod_nonneg t (by omega)) (Int.emod_lt_of_pos t h0) ⟨ys, s', c + 1, hab, e1, e2, e3⟩ e4⟩
  cases xs with
  | nil =>
    simp only [List.map_nil] at hb
    simp_arith! [i_law_draw, ha, atI_2, atI_1, atI_0, ixN_31, ixN_32, hba, if_neg hba, hb]
    refine ⟨ints_Cmp [], cmul_mod _ _ _ (by decide) (by decide), cmul_l _ _ (by decide), cmul_mod _ _ _ (by decide) (by decide), cmul_l _ _ (by decide), cmul_mod _ _ _ (by decide) (by decide), ⟨by decide, by decide⟩, h0, ?_⟩
    exact fin _ _ _ (if_pos rfl) ⟨[], by rw [if_neg hba, if_neg hba]; exact hb, Nat.zero_le _⟩ (fun e h1 h2 => by rw [if_neg h1, if_neg h1])
  | cons x xs =>
    simp only [List.map_cons] at hb
    simp_arith! [i_law_draw, ha, atI_2, atI_1, atI_0, ixN_31, ixN_32, hba, if_neg hba, if_neg hab, hb, seqIx_0]
    have hs : (xs.map D.int).length < 16777216 := by
      rw [List.length_map]
      rw [List.length_cons] at hl
      omega
    rw [List.length_cons] at hl
    refine ⟨ints_Cmp (x :: xs), ?_⟩
    split
    · refine ⟨⟨h0, h1⟩, hs, h0, ?_⟩
      refine fin _ s _ (by rw [if_neg hab, if_neg hab, if_pos rfl]) ⟨(x / n) :: xs, by rw [if_pos rfl]; rfl, by rw [List.length_cons]; omega⟩ (fun e h1 h2 => by rw [if_neg h2, if_neg h2, if_neg h1])
    · refine ⟨cmul_mod _ _ _ (by decide) (by decide), cmul_l _ _ (by decide), cmul_mod _ _ _ (by decide) (by decide), cmul_l _ _ (by decide), cmul_mod _ _ _ (by decide) (by decide), ⟨by decide, by decide⟩, h0, ?_⟩
      exact fin _ _ _ (if_pos rfl) ⟨xs, by rw [if_neg hba, if_pos rfl], by omega⟩ (fun e h1 h2 => by rw [if_neg h1, if_neg h2, if_neg h1])
theorem sp_draw {tb : List (String × Def)} (h : tb.lookup "_law_draw" = some i_law_draw) : Sp tb "_law_draw" 1 DrawR :=
  sp_mk h fun n _ ds C P ex ⟨a, b, m, e, hD, h0, h1, k⟩ => by subst e; exact draw_ok _ a b m C P hD h0 h1 k
end M61

set_option Elab.async false
set_option linter.all false
set_option autoImplicit false
set_option maxRecDepth 100000
/-! P3: lists in pure form; drawing. -/
namespace M61
open PySem PySem.Spec PyProof.Rows L2
theorem comp_mapL {α : Type} (g f : α → D) {turn : D → CM → (Option D → CM → Prop) → Prop} {xs : List α} {C : CM} {P : List D → CM → Prop} (hl : xs.length ≤ sizeLine)
    (step : ∀ x ∈ xs, ∀ K : Option D → CM → Prop, K (some (f x)) C → turn (g x) C K) (hend : P (xs.map f) C) : compGo turn (xs.map g) [] C P := by
  have key : ∀ (xs : List α) (acc : List D), acc.length + xs.length ≤ sizeLine → (∀ x ∈ xs, ∀ K : Option D → CM → Prop, K (some (f x)) C → turn (g x) C K) → P (acc ++ xs.map f) C → compGo turn (xs.map g) acc C P := by
    intro xs
    induction xs with
    | nil => intro acc _ _ h; rw [List.map_nil, List.append_nil] at h; exact h
    | cons x xs ih =>
      intro acc hl step hend
      rw [List.length_cons] at hl
      exact step x List.mem_cons_self _ ⟨by omega, ih _ (by rw [List.length_append, List.length_singleton]; omega) (fun e h => step e (List.mem_cons_of_mem _ h)) (by rw [List.append_assoc]; exact hend)⟩
  exact key xs [] (by rw [List.length_nil]; omega) step hend
theorem comp_filterL {α : Type} (p : α → Bool) (g f : α → D) {turn : D → CM → (Option D → CM → Prop) → Prop} {xs : List α} {C : CM} {P : List D → CM → Prop} (hl : xs.length ≤ sizeLine)
    (step : ∀ x ∈ xs, ∀ K : Option D → CM → Prop, K (if p x = true then some (f x) else none) C → turn (g x) C K) (hend : P ((xs.filter p).map f) C) : compGo turn (xs.map g) [] C P := by
  have key : ∀ (xs : List α) (acc : List D), acc.length + xs.length ≤ sizeLine → (∀ x ∈ xs, ∀ K : Option D → CM → Prop, K (if p x = true then some (f x) else none) C → turn (g x) C K) → P (acc ++ (xs.filter p).map f) C → compGo turn (xs.map g) acc C P := by
    intro xs
    induction xs with
    | nil => intro acc _ _ h; rw [List.filter_nil, List.map_nil, List.append_nil] at h; exact h
    | cons x xs ih =>
      intro acc hl step hend
      rw [List.length_cons] at hl
      refine step x List.mem_cons_self _ ?_
      rw [List.filter_cons] at hend
      cases hp : p x with
      | true =>
        rw [hp] at hend
        exact ⟨by omega, ih _ (by rw [List.length_append, List.length_singleton]; omega) (fun e h => step e (List.mem_cons_of_mem _ h)) (by rw [List.append_assoc]; exact hend)⟩
      | false =>
        rw [hp] at hend
        exact ih _ (by omega) (fun e h => step e (List.mem_cons_of_mem _ h)) hend
  exact key xs [] (by rw [List.length_nil]; omega) step hend
/-- a comprehension that draws: its elements are of a kind, cells keep what J says -/
theorem comp_all {α : Type} (J : CM → Prop) (Q : α → Prop) (f : α → D) {turn : D → CM → (Option D → CM → Prop) → Prop} {ds : List D} {C : CM} {P : List D → CM → Prop} (hl : ds.length ≤ sizeLine) (h0 : J C)
    (step : ∀ d ∈ ds, ∀ C, J C → ∀ K : Option D → CM → Prop, (∀ y C', Q y → J C' → K (some (f y)) C') → turn d C K) (hend : ∀ (ys : List α) C, ys.length = ds.length → (∀ y ∈ ys, Q y) → J C → P (ys.map f) C) : compGo turn ds [] C P := by
  have key : ∀ (ds : List D) (acc : List α) (C : CM), acc.length + ds.length ≤ sizeLine → J C → (∀ y ∈ acc, Q y) → (∀ d ∈ ds, ∀ C, J C → ∀ K : Option D → CM → Prop, (∀ y C', Q y → J C' → K (some (f y)) C') → turn d C K) →
      (∀ (ys : List α) C, ys.length = acc.length + ds.length → (∀ y ∈ ys, Q y) → J C → P (ys.map f) C) → compGo turn ds (acc.map f) C P := by
    intro ds
    induction ds with
    | nil => intro acc C _ j q _ h; exact h acc C rfl q j
    | cons d ds ih =>
      intro acc C hl j q step hend
      rw [List.length_cons] at hl
      refine step d List.mem_cons_self C j _ fun y C' qy j' => ⟨by rw [List.length_map]; omega, ?_⟩
      have e : acc.map f ++ [f y] = (acc ++ [y]).map f := by rw [List.map_append]; rfl
      rw [e]
      refine ih (acc ++ [y]) C' (by rw [List.length_append, List.length_singleton]; omega) j' (fun z hz => ?_) (fun e h => step e (List.mem_cons_of_mem _ h)) (fun ys C'' e1 => hend ys C'' (by rw [e1, List.length_append, List.length_singleton, List.length_cons]; omega))
      rcases List.mem_append.mp hz with h | h
      · exact q z h
      · rw [List.mem_singleton.mp h]; exact qy
  have := key ds [] C (by rw [List.length_nil]; omega) h0 (fun _ h => absurd h (by simp)) step (fun ys C e => hend ys C (by rw [e, List.length_nil]; omega))
  exact this
theorem for_invL {α : Type} (g : α → D) {tg : Tg} {body : AEnds → Rho → CM → Prop} {A : AEnds} (I : List α → Rho → CM → Prop) {xs : List α} {ρ : Rho} {C : CM} (h0 : I [] ρ C)
    (step : ∀ done x rest ρ C, xs = done ++ x :: rest → I done ρ C → ∀ nx : Rho → CM → Prop, (∀ ρ' C', I (done ++ [x]) ρ' C' → nx ρ' C') → bindT tg (g x) ρ fun ρ1 => body { A with nx := nx, ct := nx, bk := A.nx } ρ1 C)
    (hend : ∀ ρ C, I xs ρ C → A.nx ρ C) : forGo tg body A (xs.map g) ρ C := by
  have key : ∀ (rest done : List α) (ρ : Rho) (C : CM), xs = done ++ rest → I done ρ C → forGo tg body A (rest.map g) ρ C := by
    intro rest
    induction rest with
    | nil => intro done ρ C e i; rw [List.append_nil] at e; subst e; exact hend ρ C i
    | cons d rest ih =>
      intro done ρ C e i
      exact step done d rest ρ C e i _ fun ρ' C' j => ih (done ++ [d]) ρ' C' (by rw [e, List.append_assoc]; rfl) j
  exact key xs [] ρ C rfl h0
theorem rangeD_map (n : Nat) : rangeD 0 1 n = (List.range n).map fun i => .int ((i : Nat) : Int) := by
  unfold rangeD
  refine List.map_congr_left fun i _ => ?_
  congr 1; omega
theorem zipD_map {α β : Type} (f : α → D) (g : β → D) : ∀ (xs : List α) (ys : List β), zipD (xs.map f) (ys.map g) = (xs.zip ys).map fun p => .tup [f p.1, g p.2]
  | [], _ => by cases ‹List β› <;> rfl
  | _ :: _, [] => rfl
  | x :: xs, y :: ys => by
    rw [List.map_cons, List.map_cons, List.zip_cons_cons, List.map_cons]
    show _ :: zipD (xs.map f) (ys.map g) = _
    rw [zipD_map f g xs ys]
theorem enumD_map {α : Type} (f : α → D) : ∀ (xs : List α) (k : Nat), enumD k (xs.map f) = (xs.zipIdx k).map fun p => .tup [.int (p.2 : Nat), f p.1]
  | [], _ => rfl
  | x :: xs, k => by
    rw [List.map_cons, List.zipIdx_cons, List.map_cons]
    show _ :: enumD (k + 1) (xs.map f) = _
    rw [enumD_map f xs (k + 1)]
/-! ### slices -/
def cutL {α : Type} (xs : List α) (lo hi : Option Int) : List α := (xs.drop (HT.sIx xs.length 0 lo)).take (HT.sIx xs.length xs.length hi - HT.sIx xs.length 0 lo)
theorem cutD_map {α : Type} (f : α → D) (xs : List α) (lo hi : Option Int) : cutD (xs.map f) lo hi = (cutL xs lo hi).map f := by
  unfold cutD cutL
  rw [List.length_map, ← List.map_drop, ← List.map_take]
theorem six_nat (n d k : Nat) : HT.sIx n d (some (k : Int)) = min k n := by
  show (if ((k : Nat) : Int) < 0 then (((k : Nat) : Int) + (n : Int)).toNat else min ((k : Nat) : Int).toNat n) = _
  rw [if_neg (by omega), Int.toNat_natCast]
theorem cut_first {α : Type} (xs : List α) : cutL xs none (some (-1)) = xs.dropLast := by
  unfold cutL
  show (xs.drop 0).take (((-1 : Int) + (xs.length : Int)).toNat - 0) = _
  rw [List.drop_zero, List.dropLast_eq_take]
  congr 1; omega
theorem cut_rest {α : Type} (xs : List α) : cutL xs (some 1) none = xs.drop 1 := by
  unfold cutL
  show (xs.drop (min 1 xs.length)).take (xs.length - min 1 xs.length) = _
  cases xs with
  | nil => rfl
  | cons x xs =>
    have e : min 1 (x :: xs).length = 1 := by rw [List.length_cons]; omega
    rw [e]
    rw [List.take_of_length_le (by rw [List.length_drop]; omega)]
theorem cut_to {α : Type} (xs : List α) (k : Nat) : cutL xs none (some (k : Int)) = xs.take k := by
  unfold cutL
  rw [six_nat]
  show (xs.drop 0).take (min k xs.length - 0) = _
  rw [List.drop_zero, Nat.sub_zero]
  rcases Nat.le_total k xs.length with h | h
  · rw [Nat.min_eq_left h]
  · rw [Nat.min_eq_right h, List.take_of_length_le (Nat.le_refl _), List.take_of_length_le h]
theorem cut_from {α : Type} (xs : List α) (k : Nat) : cutL xs (some (k : Int)) none = xs.drop k := by
  unfold cutL
  rw [six_nat]
  show (xs.drop (min k xs.length)).take (xs.length - min k xs.length) = _
  rcases Nat.le_total k xs.length with h | h
  · rw [Nat.min_eq_left h, List.take_of_length_le (by rw [List.length_drop]; omega)]
  · rw [Nat.min_eq_right h, List.drop_eq_nil_of_le (Nat.le_refl _), List.drop_eq_nil_of_le h, List.take_nil]
theorem atI_in {α : Type} {xs : List α} {i : Int} (h0 : 0 ≤ i) (h1 : i < xs.length) : ∃ x, x ∈ xs ∧ xs[i.toNat]? = some x ∧ atI xs i = some x := by
  have h : i.toNat < xs.length := by omega
  refine ⟨xs[i.toNat], List.getElem_mem h, List.getElem?_eq_getElem h, ?_⟩
  have := atI_nat (j := i.toNat) (List.getElem?_eq_getElem h)
  rwa [Int.toNat_of_nonneg h0] at this
theorem atI_map {α : Type} (f : α → D) (xs : List α) (i : Int) : atI (xs.map f) i = (atI xs i).map f := by
  unfold atI
  rw [List.length_map]
  cases ixN xs.length i with
  | none => rfl
  | some j => show (xs.map f)[j]? = (xs[j]?).map f; rw [List.getElem?_map]
theorem atI_end {α : Type} {xs : List α} (h : xs ≠ []) : ∃ x, x ∈ xs ∧ xs.getLast? = some x ∧ atI xs (-1) = some x := by
  refine ⟨xs.getLast h, List.getLast_mem h, List.getLast?_eq_getLast h, ?_⟩
  have := atI_last xs.dropLast (xs.getLast h)
  rwa [List.dropLast_concat_getLast] at this
section
variable {tb : List (String × Def)} {n : Nat} {a b : Addr} {m : Int} {C : CM} {P : D → CM → Prop} {ex : Exc → CM → Prop}
theorem use_draw (hd : Sp tb "_law_draw" 1 DrawR) (hn : 1 ≤ n) (hD : Deck a b C) (h0 : 0 < m) (h1 : m < 1073741824)
    (k : ∀ v C', 0 ≤ v → v < m → Deck a b C' → (∀ e, e ≠ a → e ≠ b → C' e = C e) → P (.int v) C') : Gm tb n "_law_draw" [.ref a, .int m] C P ex :=
  hd n hn _ _ _ _ ⟨a, b, m, rfl, hD, h0, h1, k⟩
end
end M61

set_option Elab.async false
set_option linter.all false
set_option autoImplicit false
set_option maxRecDepth 100000
/-! P8: the deck of k08 and its like. -/
namespace M61.B8
open PySem PySem.Spec PyProof.Rows L2
local macro_rules
  | `(tactic| simp_arith! [$ls,*] $[$loc:location]?) => `(tactic| try simp only [wipeR_cons, wipeR_nil, eq_self, denSs, denS, denE, denT, denEs, denO, denC, denL, denI, bindT_nm, bindT_tp, bindT_tl, bindTs_nil, bindTs_cons, varD_0, varD_s, varM_own0, varM_dat0, varM_s, varO_0, varO_s, varL_own0, varL_ref0, varL_s, sz, cp1, cp2, cp3, cp4, cp5, cp6, cp7, cp8, cp9, cp10, cp11, cp12, cp15, cp18, add_i, add_t, add_l, add_s, add_b, sub_b, sub_i, mul_i, mul_t, mul_l, fdiv_i, mod_i, pow_i, shl_i, eq_r, ne_r, inn_t, nin_t, inn_l, nin_l, lt_r, lt_tt, le_r, gt_r, ge_r, is_n, isn_n, is_b, isn_b, isNon_n, isNon_i, isNon_t, isNon_l, isNon_b, isNon_s, tru_n, tru_b, tru_i, tru_t, tru_l, ix_t, ix_l, ix_c, ix_r, cellAt_l, cellL_l, lstD_l, lstD_r, sqD_t, sqD_l, sl_t, sl_l, sl_c, sl_r, rev_t, rev_l, len_t, len_l, len_c, len_r, tup_t, tup_l, tup_r, sum_t, sum_l, sum_r, min_t, min_l, max_t, max_l, min_2, max_2, min_3, repr_r, str_ri, abs_i, int_i, int_b, all_l, any_l, ty_bb, ty_bi, ty_bn, ty_bt, ty_ss, ty_sn, ty_si, ty_sb, ty_ii, ty_ib, ty_in, ty_it, ty_tt, ty_tn, ty_ti, ty_tb, ty_ll, ty_lt, ty_is, ty_il, ty_bs, ty_blst, ty_st, ty_sl, ty_ts, ty_tl, ty_ln, ty_li, ty_lb, ty_ls, intsOf_map, boolsOf_map, pair_Cmp, int_Cmp, bl_Cmp, non_Cmp, ints_Cmp, intst_Cmp, eqv_int, eqv_bl, eqv_ints, eqv_intst, List.map_cons, List.map_nil, List.replicate_succ, List.replicate_zero, List.cons_append, List.nil_append, List.set_cons_zero, List.set_cons_succ, List.length_cons, List.length_nil, List.getElem?_cons_zero, List.getElem?_cons_succ, List.eraseIdx_cons_zero, Nat.reduceSub, Nat.reduceAdd, Nat.reduceLT, Nat.reduceLeDiff, Nat.reducePow, Nat.reduceEqDiff, Nat.reduceMul, Int.reducePow, Int.reduceToNat, Int.reduceMul, Int.reduceAdd, Int.reduceSub, Int.reduceNeg, Int.reduceLT, Int.reduceLE, Int.reduceEq, Int.reduceBEq, Int.reduceBNe, zero_add', not_true_eq_false, not_false_eq_true, Bool.true_eq_false, false_and, and_false, true_and, and_true, exists_eq_left', exists_and_left, Option.some.injEq, Cell.lst.injEq, Cell.dct.injEq, if_pos_true, reduceIte, Bool.false_eq_true, decide_true, decide_false, Bool.not_true, Bool.not_false, Bool.not_eq_true', Bool.and_true, Bool.true_and, decide_eq_true_eq, decide_eq_false_iff_not, ite_self, List.isEmpty_cons, List.isEmpty_nil, $ls,*] $[$loc]?)
def i_law_deck : Def := ⟨1, 4,
  (.cons (.set 1 (.frz (.list (.sl (.var 0) .no (.yes (.int 63))))))
  (.cons (.set 2 (.int 48271))
  (.cons (.for (.nm 3) (.seq (.var 1)) (.cons (.set 2 (.bin .mod (.bin .add (.bin .add (.bin .mul (.var 2) (.int 69621)) (.bin .mod (.var 3) (.int 1000000007))) (.int 3)) (.int 2147483629)))
  .nil))
  (.cons (.ret (.cel (.lit (.cons (.cel (.lrv (.var 1))) (.cons (.var 2) (.cons (.int 0) .nil))))))
  .nil))))⟩
def i_law_draw : Def := ⟨2, 4,
  (.cons (.csub (.var 0) (.int 2) (.bin .add (.ix (.var 0) (.int 2)) (.int 1)))
  (.cons (.set 2 (.ix (.var 0) (.int 1)))
  (.cons (.ife (.cne (.ix (.var 0) (.int 0))) (.cons (.set 2 (.cpop (.ix (.var 0) (.int 0))))
  (.cons (.ife (.cmp .ge (.var 2) (.bin .pow (.int 10) (.int 18))) (.cons (.capp (.ix (.var 0) (.int 0)) (.bin .fdiv (.var 2) (.var 1)))
  (.cons (.ret (.bin .mod (.var 2) (.var 1)))
  .nil)) .nil)
  .nil)) .nil)
  (.cons (.set 3 (.bin .mod (.bin .mul (.bin .add (.bin .add (.bin .mod (.var 2) (.int 2147483629)) (.bin .mul (.int 7919) (.ix (.var 0) (.int 2)))) (.int 31)) (.int 48271)) (.int 2147483647)))
  (.cons (.set 3 (.bin .mod (.bin .add (.bin .add (.bin .mul (.var 3) (.var 3)) (.bin .mul (.int 69621) (.ix (.var 0) (.int 2)))) (.int 7)) (.int 2147483587)))
  (.cons (.ret (.bin .mod (.bin .fdiv (.bin .mod (.bin .mul (.var 3) (.int 16807)) (.int 2147483563)) (.int 64)) (.var 1)))
  .nil))))))⟩
theorem cmul_r (i j : Int) (h : -18446744073709551616 < j ∧ j < 18446744073709551616) : CMul i j := .inr ⟨by omega, by omega⟩
theorem draw_ok (G : Ctx) (a b : Addr) (n : Int) (C : CM) (P : D → CM → Prop) (hD : Deck a b C) (h0 : 0 < n) (h1 : n < 1073741824)
    (k : ∀ v C', 0 ≤ v → v < n → Deck a b C' → (∀ e, e ≠ a → e ≠ b → C' e = C e) → P (.int v) C') : denF G i_law_draw [.ref a, .int n] C P := by
  obtain ⟨xs, s, c, hab, ha, hb, hl⟩ := hD
  refine ⟨rfl, ?_⟩
  have hba : ¬ (b = a) := fun e => hab e.symm
  have fin : ∀ (t s' : Int) (C' : CM), C' a = some (.lst [.ref b, .int s', .int (c + 1)]) → (∃ ys : List Int, C' b = some (.lst (ys.map .int)) ∧ ys.length ≤ 63) → (∀ e, e ≠ a → e ≠ b → C' e = C e) → ∃ C'', CM.Sub C'' C' ∧ P (.int (t % n)) C'' :=
    fun t s' C' e1 ⟨ys, e2, e3⟩ e4 => ⟨C', sub_refl _, k _ _ (Int.emod_nonneg t (by omega)) (Int.emod_lt_of_pos t h0) ⟨ys, s', c + 1, hab, e1, e2, e3⟩ e4⟩
  rcases List.eq_nil_or_concat xs with rfl | ⟨ys, y, rfl⟩
  · simp only [List.map_nil] at hb
    simp_arith! [i_law_draw, ha, atI_2, atI_1, atI_0, ixN_31, ixN_32, hba, if_neg hba, hb]
    refine ⟨ints_Cmp [], cmul_l _ _ (by decide), cmul_r _ _ (by decide), cmul_mod _ _ _ (by decide) (by decide), cmul_l _ _ (by decide), cmul_r _ _ (by decide), ⟨by decide, by decide⟩, h0, ?_⟩
    exact fin _ s _ (if_pos rfl) ⟨[], by show (if b = a then _ else C b) = _; rw [if_neg hba]; exact hb, Nat.zero_le _⟩ (fun e h1 h2 => by show (if e = a then _ else C e) = _; rw [if_neg h1])
  · rw [List.concat_eq_append] at *
    have hLd : ((ys ++ [y]).map D.int).dropLast = ys.map .int := by rw [List.map_append]; exact List.dropLast_concat
    have hLl : ((ys ++ [y]).map D.int)[((ys ++ [y]).map D.int).length - 1]? = some (.int y) := by
      rw [List.map_append, List.length_append, List.map_cons, List.map_nil, List.length_singleton, Nat.add_sub_cancel, List.getElem?_append_right (Nat.le_refl _), Nat.sub_self]; rfl
    have hLe : ((ys ++ [y]).map D.int).isEmpty = false := by rw [List.map_append]; cases ys <;> rfl
    have hLc := ints_Cmp (ys ++ [y])
    have hl2 : ys.length + 1 ≤ 63 := by rw [List.length_append, List.length_singleton] at hl; exact hl
    have hs : (ys.map D.int).length < 16777216 := by rw [List.length_map]; omega
    generalize (ys ++ [y]).map D.int = L at *
    simp_arith! [i_law_draw, ha, atI_2, atI_1, atI_0, ixN_31, ixN_32, hba, if_neg hba, if_neg hab, hb, hLd, hLl, hLe, hLc]
    split
    · refine ⟨⟨h0, h1⟩, hs, h0, ?_⟩
      refine fin _ s _ (by show (if a = b then _ else if a = b then _ else if a = a then _ else _) = _; rw [if_neg hab, if_neg hab, if_pos rfl]) ⟨ys ++ [y / n], by rw [List.map_append]; exact if_pos rfl, by rw [List.length_append, List.length_singleton]; exact hl2⟩ (fun e h1 h2 => by show (if e = b then _ else if e = b then _ else if e = a then _ else C e) = _; rw [if_neg h2, if_neg h2, if_neg h1])
    · refine ⟨cmul_l _ _ (by decide), cmul_r _ _ (by decide), cmul_mod _ _ _ (by decide) (by decide), cmul_l _ _ (by decide), cmul_r _ _ (by decide), ⟨by decide, by decide⟩, h0, ?_⟩
      refine fin _ s _ (by show (if a = b then _ else if a = a then _ else _) = _; rw [if_neg hab, if_pos rfl]) ⟨ys, if_pos rfl, by omega⟩ (fun e h1 h2 => by show (if e = b then _ else if e = a then _ else C e) = _; rw [if_neg h2, if_neg h1])
theorem sp_draw {tb : List (String × Def)} (h : tb.lookup "_law_draw" = some i_law_draw) : Sp tb "_law_draw" 1 DrawR :=
  sp_mk h fun n _ ds C P ex ⟨a, b, m, e, hD, h0, h1, k⟩ => by subst e; exact draw_ok _ a b m C P hD h0 h1 k
def DeckR (ds : List D) (C : CM) (P : D → CM → Prop) : Prop := ∃ ns : List Int, ds = [.scr (ns.map .int)] ∧ ns.length ≤ 63 ∧ ∀ a b C', Deck a b C' → P (.ref a) C'
theorem deck_ok {G : Ctx} {C : CM} {P : D → CM → Prop} {ns : List Int} (hl : ns.length ≤ 63) (k : ∀ a b C', Deck a b C' → P (.ref a) C') : denF G i_law_deck [.scr (ns.map .int)] C P := by
  refine ⟨rfl, ?_⟩
  have e63 : (63 : Int) = ((63 : Nat) : Int) := rfl
  try simp_arith! [i_law_deck, cutD_map]
  rw [e63, cut_to, List.take_of_length_le hl]
  refine for_invL .int (I := fun _ ρ C' => ∃ (s : Int) (x3 : Option Dv), ρ = [some (.dat (.scr (ns.map .int))), some (.dat (.lst (ns.map .int))), some (.dat (.int s)), x3] ∧ C' = C) ⟨_, _, rfl, rfl⟩ (fun done x rest ρ C1 e ⟨s, x3, hr, hc⟩ nx knx => ?_) fun ρ C1 ⟨s, x3, hr, hc⟩ => ?_
  · subst hr hc
    try simp_arith! []
    exact ⟨cmul_r _ _ (by decide), knx _ _ ⟨_, _, rfl, rfl⟩⟩
  · subst hr hc
    try simp_arith! [← List.map_reverse]
    intro b hb a ha
    have hab : a ≠ b := fun e => by rw [e, if_pos rfl] at ha; cases ha
    exact ⟨_, sub_refl _, k a b _ ⟨ns.reverse, _, _, hab, if_pos rfl, by show (if b = a then _ else if b = b then _ else C1 b) = _; rw [if_neg hab.symm, if_pos rfl], by rw [List.length_reverse]; exact hl⟩⟩
theorem sp_deck {tb : List (String × Def)} (h : tb.lookup "_law_deck" = some i_law_deck) : Sp tb "_law_deck" 1 DeckR :=
  sp_mk h fun n _ ds C P ex ⟨ns, e, hl, k⟩ => by subst e; exact deck_ok hl k
end M61.B8

set_option Elab.async false
set_option linter.all false
set_option autoImplicit false
set_option maxRecDepth 100000
/-! P20: the deck of k31 and its like. -/
namespace M61.B31
open PySem PySem.Spec PyProof.Rows L2
local macro_rules
  | `(tactic| simp_arith! [$ls,*] $[$loc:location]?) => `(tactic| try simp only [wipeR_cons, wipeR_nil, eq_self, denSs, denS, denE, denT, denEs, denO, denC, denL, denI, bindT_nm, bindT_tp, bindT_tl, bindTs_nil, bindTs_cons, varD_0, varD_s, varM_own0, varM_dat0, varM_s, varO_0, varO_s, varL_own0, varL_ref0, varL_s, sz, cp1, cp2, cp3, cp4, cp5, cp6, cp7, cp8, cp9, cp10, cp11, cp12, cp15, cp18, add_i, add_t, add_l, add_s, add_b, sub_b, sub_i, mul_i, mul_t, mul_l, fdiv_i, mod_i, pow_i, shl_i, eq_r, ne_r, inn_t, nin_t, inn_l, nin_l, lt_r, lt_tt, le_r, gt_r, ge_r, is_n, isn_n, is_b, isn_b, isNon_n, isNon_i, isNon_t, isNon_l, isNon_b, isNon_s, tru_n, tru_b, tru_i, tru_t, tru_l, ix_t, ix_l, ix_c, ix_r, cellAt_l, cellL_l, lstD_l, lstD_r, sqD_t, sqD_l, sl_t, sl_l, sl_c, sl_r, rev_t, rev_l, len_t, len_l, len_c, len_r, tup_t, tup_l, tup_r, sum_t, sum_l, sum_r, min_t, min_l, max_t, max_l, min_2, max_2, min_3, repr_r, str_ri, abs_i, int_i, int_b, all_l, any_l, ty_bb, ty_bi, ty_bn, ty_bt, ty_ss, ty_sn, ty_si, ty_sb, ty_ii, ty_ib, ty_in, ty_it, ty_tt, ty_tn, ty_ti, ty_tb, ty_ll, ty_lt, ty_is, ty_il, ty_bs, ty_blst, ty_st, ty_sl, ty_ts, ty_tl, ty_ln, ty_li, ty_lb, ty_ls, intsOf_map, boolsOf_map, pair_Cmp, int_Cmp, bl_Cmp, non_Cmp, ints_Cmp, intst_Cmp, eqv_int, eqv_bl, eqv_ints, eqv_intst, List.map_cons, List.map_nil, List.replicate_succ, List.replicate_zero, List.cons_append, List.nil_append, List.set_cons_zero, List.set_cons_succ, List.length_cons, List.length_nil, List.getElem?_cons_zero, List.getElem?_cons_succ, List.eraseIdx_cons_zero, Nat.reduceSub, Nat.reduceAdd, Nat.reduceLT, Nat.reduceLeDiff, Nat.reducePow, Nat.reduceEqDiff, Nat.reduceMul, Int.reducePow, Int.reduceToNat, Int.reduceMul, Int.reduceAdd, Int.reduceSub, Int.reduceNeg, Int.reduceLT, Int.reduceLE, Int.reduceEq, Int.reduceBEq, Int.reduceBNe, zero_add', not_true_eq_false, not_false_eq_true, Bool.true_eq_false, false_and, and_false, true_and, and_true, exists_eq_left', exists_and_left, Option.some.injEq, Cell.lst.injEq, Cell.dct.injEq, if_pos_true, reduceIte, Bool.false_eq_true, decide_true, decide_false, Bool.not_true, Bool.not_false, Bool.not_eq_true', Bool.and_true, Bool.true_and, decide_eq_true_eq, decide_eq_false_iff_not, ite_self, List.isEmpty_cons, List.isEmpty_nil, $ls,*] $[$loc]?)
def i_law_draw : Def := ⟨2, 5,
  (.cons (.set 2 (.ix (.var 0) (.int 0)))
  (.cons (.ife (.and (.cne (.var 2)) (.cmp .ge (.ix (.var 2) (.int 0)) (.bin .pow (.int 10) (.int 18)))) (.cons (.set 4 (.bin .mod (.ix (.var 2) (.int 0)) (.var 1)))
  (.cons (.csub (.var 2) (.int 0) (.bin .fdiv (.ix (.var 2) (.int 0)) (.var 1)))
  (.cons (.ret (.var 4))
  .nil))) .nil)
  (.cons (.csub (.var 0) (.int 2) (.bin .add (.ix (.var 0) (.int 2)) (.int 1)))
  (.cons (.set 3 (.bin .add (.ix (.var 0) (.int 1)) (.bin .mul (.int 7919) (.ix (.var 0) (.int 2)))))
  (.cons (.ife (.cne (.var 2)) (.cons (.set 3 (.bin .add (.var 3) (.bin .mul (.bin .mod (.cpopA (.var 2) (.int 0)) (.int 2147483587)) (.int 31))))
  .nil) .nil)
  (.cons (.set 3 (.bin .mod (.bin .add (.bin .mul (.var 3) (.int 48271)) (.int 104729)) (.int 2147483647)))
  (.cons (.csub (.var 0) (.int 1) (.bin .mod (.bin .add (.bin .add (.bin .mul (.var 3) (.var 3)) (.bin .mul (.int 16807) (.var 3))) (.ix (.var 0) (.int 2))) (.int 2147483579)))
  (.cons (.ret (.bin .mod (.bin .fdiv (.bin .mod (.bin .mul (.ix (.var 0) (.int 1)) (.int 39373)) (.int 2147483549)) (.int 64)) (.var 1)))
  .nil))))))))⟩
theorem ixN_0 (n : Nat) : ixN (n + 1) 0 = some 0 := by
  show ixN (n + 1) ((0 : Nat) : Int) = some 0
  unfold ixN
  rw [if_pos (by omega), if_pos (by omega), Int.toNat_natCast]
theorem draw_ok (G : Ctx) (a b : Addr) (n : Int) (C : CM) (P : D → CM → Prop) (hD : Deck a b C) (h0 : 0 < n) (h1 : n < 1073741824)
    (k : ∀ v C', 0 ≤ v → v < n → Deck a b C' → (∀ e, e ≠ a → e ≠ b → C' e = C e) → P (.int v) C') : denF G i_law_draw [.ref a, .int n] C P := by
  obtain ⟨xs, s, c, hab, ha, hb, hl⟩ := hD
  refine ⟨rfl, ?_⟩
  have hba : ¬ (b = a) := fun e => hab e.symm
  have fin : ∀ (t s' c' : Int) (C' : CM), C' a = some (.lst [.ref b, .int s', .int c']) → (∃ ys : List Int, C' b = some (.lst (ys.map .int)) ∧ ys.length ≤ 63) → (∀ e, e ≠ a → e ≠ b → C' e = C e) → ∃ C'', CM.Sub C'' C' ∧ P (.int (t % n)) C'' :=
    fun t s' c' C' e1 ⟨ys, e2, e3⟩ e4 => ⟨C', sub_refl _, k _ _ (Int.emod_nonneg t (by omega)) (Int.emod_lt_of_pos t h0) ⟨ys, s', c', hab, e1, e2, e3⟩ e4⟩
  cases xs with
  | nil =>
    simp only [List.map_nil] at hb
    simp_arith! [i_law_draw, ha, atI_2, atI_1, atI_0, ixN_31, ixN_32, hba, if_neg hba, hb]
    refine ⟨ints_Cmp [], cmul_l _ _ (by decide), ints_Cmp [], B8.cmul_r _ _ (by decide), cmul_mod _ _ _ (by decide) (by decide), cmul_l _ _ (by decide), cmul_mod _ _ _ (by decide) (by decide), ⟨by decide, by decide⟩, h0, ?_⟩
    exact fin _ _ _ _ (if_pos rfl) ⟨[], by rw [if_neg hba, if_neg hba]; exact hb, Nat.zero_le _⟩ (fun e h1 h2 => by rw [if_neg h1, if_neg h1])
  | cons x xs =>
    simp only [List.map_cons] at hb
    simp_arith! [i_law_draw, ha, atI_2, atI_1, atI_0, ixN_31, ixN_32, hba, if_neg hba, if_neg hab, hb, seqIx_0]
    have hs : (xs.map D.int).length < 16777216 := by
      rw [List.length_map]
      rw [List.length_cons] at hl
      omega
    rw [List.length_cons] at hl
    refine ⟨ints_Cmp (x :: xs), ?_⟩
    split
    · refine ⟨h0, ⟨h0, h1⟩, 0, ixN_0 _, ?_⟩
      exact fin x s c _ (by rw [if_neg hab]; exact ha) ⟨(x / n) :: xs, if_pos rfl, by rw [List.length_cons]; omega⟩ (fun e h1 h2 => if_neg h2)
    · refine ⟨cmul_l _ _ (by decide), ints_Cmp (x :: xs), cmul_mod _ _ _ (by decide) (by decide), B8.cmul_r _ _ (by decide), cmul_mod _ _ _ (by decide) (by decide), cmul_l _ _ (by decide), cmul_mod _ _ _ (by decide) (by decide), ⟨by decide, by decide⟩, h0, ?_⟩
      exact fin _ _ _ _ (if_pos rfl) ⟨xs, by rw [if_neg hba, if_pos rfl], by omega⟩ (fun e h1 h2 => by rw [if_neg h1, if_neg h2, if_neg h1])
theorem sp_draw {tb : List (String × Def)} (h : tb.lookup "_law_draw" = some i_law_draw) : Sp tb "_law_draw" 1 DrawR :=
  sp_mk h fun n _ ds C P ex ⟨a, b, m, e, hD, h0, h1, k⟩ => by subst e; exact draw_ok _ a b m C P hD h0 h1 k
end M61.B31

set_option Elab.async false
set_option linter.all false
set_option autoImplicit false
set_option maxRecDepth 100000
/-! P4: step by step: what stands behind a statement stays folded. -/
namespace M61
open PySem PySem.Spec PyProof.Rows L2
/-- a block, folded -/
def blk (G : Ctx) (b : Ss) (A : AEnds) (ρ : Rho) (C : CM) : Prop := denSs G b A ρ C
theorem blk_of {G : Ctx} {b : Ss} {A : AEnds} {ρ : Rho} {C : CM} (h : denSs G b A ρ C) : blk G b A ρ C := h
/-- a turn of a comprehension, folded -/
def turn (G : Ctx) (own : List Nat) (elt : E) (tg : Tg) (c : Oc) (ρ1 : Rho) (d : D) (C2 : CM) (K : Option D → CM → Prop) : Prop := bindT tg d (wipeR ρ1 own) fun ρ2 => denC G c ρ2 C2 fun b ρ3 C3 => ρ3 = ρ2 ∧
        if b = true then denE G elt ρ3 C3 fun y ρ4 C4 => ρ4 = ρ2 ∧ K (some y) C4 else K none C3
theorem turn_of {G : Ctx} {own : List Nat} {elt : E} {tg : Tg} {c : Oc} {ρ1 : Rho} {d : D} {C2 : CM} {K : Option D → CM → Prop} (h : bindT tg d (wipeR ρ1 own) fun ρ2 => denC G c ρ2 C2 fun b ρ3 C3 => ρ3 = ρ2 ∧
        if b = true then denE G elt ρ3 C3 fun y ρ4 C4 => ρ4 = ρ2 ∧ K (some y) C4 else K none C3) : turn G own elt tg c ρ1 d C2 K := h
/-- a test, folded -/
def tst (G : Ctx) (t : T) (ρ : Rho) (C : CM) (K : Bool → Rho → CM → Prop) : Prop := denT G t ρ C K
theorem tst_of {G : Ctx} {t : T} {ρ : Rho} {C : CM} {K : Bool → Rho → CM → Prop} (h : denT G t ρ C K) : tst G t ρ C K := h
section
variable (G : Ctx) (A : AEnds) (ρ : Rho) (C : CM) (i j l : Nat) (e k o : E) (es : Es) (ll : L) (t : T) (a b : Ss) (tg : Tg) (it : I) (bo : Bop) (s : S) (ss : Ss) (P : List D → Rho → CM → Prop)
theorem ss_nil' : denSs G .nil A ρ C = A.nx ρ C := rfl
theorem ss_cons' : denSs G (.cons s ss) A ρ C = denS G s { A with nx := blk G ss A } ρ C := rfl
theorem s_set' : denS G (.set i e) A ρ C = denE G e ρ C fun d ρ1 C1 => A.nx (ρ1.set i (some (.dat d))) C1 := rfl
theorem s_own' : denS G (.own i ll) A ρ C = denL G ll ρ C fun ds ρ1 C1 => A.nx (ρ1.set i (some (.own ds))) C1 := rfl
theorem s_setF' : denS G (.setF i ll) A ρ C = denL G ll ρ C fun ds ρ1 C1 => A.nx (ρ1.set i (some (.dat (.lst ds)))) C1 := rfl
theorem s_unp' : denS G (.unp tg e) A ρ C = denE G e ρ C fun d ρ1 C1 => bindT tg d ρ1 fun ρ2 => A.nx ρ2 C1 := rfl
def par2K (A : AEnds) (i j : Nat) : List D → Rho → CM → Prop
  | [d, e], ρ1, C1 => A.nx ((ρ1.set i (some (.dat d))).set j (some (.dat e))) C1
  | _, _, _ => False
theorem par2K_e (d e : D) : par2K A i j [d, e] ρ C = A.nx ((ρ.set i (some (.dat d))).set j (some (.dat e))) C := rfl
theorem s_par2' : denS G (.par2 i j es) A ρ C = denEs G es ρ C (par2K A i j) := by
  first
  | rfl
  | (show denEs G es ρ C _ = denEs G es ρ C _; congr 1; funext ds ρ1 C1; rcases ds with _ | ⟨d, _ | ⟨e, _ | ⟨f, r⟩⟩⟩ <;> rfl)
def par3K (A : AEnds) (i j l : Nat) : List D → Rho → CM → Prop
  | [d, e, f], ρ1, C1 => A.nx (((ρ1.set i (some (.dat d))).set j (some (.dat e))).set l (some (.dat f))) C1
  | _, _, _ => False
theorem par3K_e (d e f : D) : par3K A i j l [d, e, f] ρ C = A.nx (((ρ.set i (some (.dat d))).set j (some (.dat e))).set l (some (.dat f))) C := rfl
theorem s_par3' : denS G (.par3 i j l es) A ρ C = denEs G es ρ C (par3K A i j l) := by
  first
  | rfl
  | (show denEs G es ρ C _ = denEs G es ρ C _; congr 1; funext ds ρ1 C1; rcases ds with _ | ⟨d, _ | ⟨e, _ | ⟨f, _ | ⟨g, r⟩⟩⟩⟩ <;> rfl)
theorem s_app' : denS G (.app i e) A ρ C = varO ρ i fun _ => denE G e ρ C fun d ρ1 C1 => varO ρ1 i fun xs => xs.length < sizeLine ∧ A.nx (ρ1.set i (some (.own (xs ++ [d])))) C1 := rfl
def extK (A : AEnds) (i : Nat) (xs : List D) (ρ1 : Rho) (C1 : CM) : D → Prop
  | .lst ys => xs.length + ys.length ≤ sizeLine ∧ A.nx (ρ1.set i (some (.own (xs ++ ys)))) C1
  | _ => False
theorem extK_e (xs ys : List D) : extK A i xs ρ C (.lst ys) = (xs.length + ys.length ≤ sizeLine ∧ A.nx (ρ.set i (some (.own (xs ++ ys)))) C) := rfl
theorem s_ext' : denS G (.ext i e) A ρ C = varO ρ i fun _ => denE G e ρ C fun d ρ1 C1 => varO ρ1 i fun xs => extK A i xs ρ1 C1 d := by
  first
  | rfl
  | (show varO ρ i _ = varO ρ i _; congr 1; funext _; congr 1; funext d ρ1 C1; congr 1; funext xs; cases d <;> rfl)
def csubK (A : AEnds) (d : D) (ρ3 : Rho) (C3 : CM) : D → D → Prop
  | .ref a, .int j => ∃ xs n, C3 a = some (.lst xs) ∧ ixN xs.length j = some n ∧ A.nx ρ3 (fun b => if b = a then some (.lst (xs.set n d)) else C3 b)
  | _, _ => False
theorem csubK_e (d : D) (a : Addr) (j : Int) : csubK A d ρ C (.ref a) (.int j) = ∃ xs n, C a = some (.lst xs) ∧ ixN xs.length j = some n ∧ A.nx ρ (fun b => if b = a then some (.lst (xs.set n d)) else C b) := rfl
theorem s_csub' : denS G (.csub o k e) A ρ C = denE G e ρ C fun d ρ1 C1 => denE G o ρ1 C1 fun x ρ2 C2 => denE G k ρ2 C2 fun y ρ3 C3 => csubK A d ρ3 C3 x y := by
  first
  | rfl
  | (show denE G e ρ C _ = denE G e ρ C _; congr 1; funext d ρ1 C1; congr 1; funext x ρ2 C2; congr 1; funext y ρ3 C3; cases x <;> cases y <;> rfl)
def cappK (A : AEnds) (G : Ctx) (e : E) (ρ1 : Rho) (C1 : CM) : D → Prop
  | .ref a => ∃ xs0, C1 a = some (.lst xs0) ∧ denE G e ρ1 C1 fun d ρ2 C2 => ∃ xs, C2 a = some (.lst xs) ∧ xs.length < sizeLine ∧ A.nx ρ2 (fun b => if b = a then some (.lst (xs ++ [d])) else C2 b)
  | _ => False
theorem cappK_e (a : Addr) : cappK A G e ρ C (.ref a) = ∃ xs0, C a = some (.lst xs0) ∧ denE G e ρ C fun d ρ2 C2 => ∃ xs, C2 a = some (.lst xs) ∧ xs.length < sizeLine ∧ A.nx ρ2 (fun b => if b = a then some (.lst (xs ++ [d])) else C2 b) := rfl
theorem s_capp' : denS G (.capp o e) A ρ C = denE G o ρ C fun x ρ1 C1 => cappK A G e ρ1 C1 x := by
  first
  | rfl
  | (show denE G o ρ C _ = denE G o ρ C _; congr 1; funext x ρ1 C1; cases x <;> rfl)
def augK (A : AEnds) (i : Nat) (ρ1 : Rho) (C1 : CM) : Bop → D → D → Prop
  | .add, .int a, .int b => A.nx (ρ1.set i (some (.dat (.int (a + b))))) C1
  | .sub, .int a, .int b => A.nx (ρ1.set i (some (.dat (.int (a - b))))) C1
  | _, _, _ => False
theorem augK_a (x y : Int) : augK A i ρ C .add (.int x) (.int y) = A.nx (ρ.set i (some (.dat (.int (x + y))))) C := rfl
theorem augK_s (x y : Int) : augK A i ρ C .sub (.int x) (.int y) = A.nx (ρ.set i (some (.dat (.int (x - y))))) C := rfl
theorem s_aug' : denS G (.aug i bo e) A ρ C = varD ρ i fun x => denE G e ρ C fun y ρ1 C1 => augK A i ρ1 C1 bo x y := by
  first
  | rfl
  | (show varD ρ i _ = varD ρ i _; congr 1; funext x; congr 1; funext y ρ1 C1; cases bo <;> cases x <;> cases y <;> rfl)
def osetK (A : AEnds) (i : Nat) (d : D) (xs : List D) (ρ2 : Rho) (C2 : CM) : D → Prop
  | .int j => ∃ n, ixN xs.length j = some n ∧ A.nx (ρ2.set i (some (.own (xs.set n d)))) C2
  | _ => False
theorem osetK_e (d : D) (xs : List D) (j : Int) : osetK A i d xs ρ C (.int j) = ∃ n, ixN xs.length j = some n ∧ A.nx (ρ.set i (some (.own (xs.set n d)))) C := rfl
theorem s_oset' : denS G (.oset i k e) A ρ C = denE G e ρ C fun d ρ1 C1 => varO ρ1 i fun _ => denE G k ρ1 C1 fun x ρ2 C2 => varO ρ2 i fun xs => osetK A i d xs ρ2 C2 x := by
  first
  | rfl
  | (show denE G e ρ C _ = denE G e ρ C _; congr 1; funext d ρ1 C1; congr 1; funext _; congr 1; funext x ρ2 C2; congr 1; funext xs; cases x <;> rfl)
def dsetK (A : AEnds) (k : String) (d : D) (ρ2 : Rho) (C2 : CM) : D → Prop
  | .ref p => ∃ kvs, C2 p = some (.dct kvs) ∧ kvs.length < sizeLine ∧ A.nx ρ2 (fun b => if b = p then some (.dct (dctPut kvs (Sum.inr (Str.ofString k)) d)) else C2 b)
  | _ => False
theorem dsetK_e (kk : String) (d : D) (p : Addr) : dsetK A kk d ρ C (.ref p) = ∃ kvs, C p = some (.dct kvs) ∧ kvs.length < sizeLine ∧ A.nx ρ (fun b => if b = p then some (.dct (dctPut kvs (Sum.inr (Str.ofString kk)) d)) else C b) := rfl
theorem s_dset' (kk : String) : denS G (.dset o kk e) A ρ C = denE G e ρ C fun d ρ1 C1 => denE G o ρ1 C1 fun x ρ2 C2 => dsetK A kk d ρ2 C2 x := by
  first
  | rfl
  | (show denE G e ρ C _ = denE G e ρ C _; congr 1; funext d ρ1 C1; congr 1; funext x ρ2 C2; cases x <;> rfl)
theorem s_exp' : denS G (.exp e) A ρ C = denE G e ρ C fun _ ρ1 C1 => A.nx ρ1 C1 := rfl
theorem s_ife' : denS G (.ife t a b) A ρ C = denT G t ρ C fun k ρ1 C1 => if k = true then blk G a A ρ1 C1 else blk G b A ρ1 C1 := rfl
theorem s_for' : denS G (.for tg it b) A ρ C = denI G it ρ C fun ds ρ1 C1 => forGo tg (blk G b) A ds ρ1 C1 := rfl
def forcK (G : Ctx) (tg : Tg) (b : Ss) (A : AEnds) (ρ1 : Rho) (C1 : CM) : D → Prop
  | .ref a => ∃ ns : List Int, forGoC a ns tg (blk G b) A ns ρ1 C1
  | _ => False
theorem forcK_e (G : Ctx) (tg : Tg) (b : Ss) (a : Addr) : forcK G tg b A ρ C (.ref a) = ∃ ns : List Int, forGoC a ns tg (blk G b) A ns ρ C := rfl
theorem s_forc' : denS G (.forc tg e b) A ρ C = denE G e ρ C fun x ρ1 C1 => forcK G tg b A ρ1 C1 x := by
  first
  | rfl
  | (show denE G e ρ C _ = denE G e ρ C _; congr 1; funext d ρ1 C1; cases d <;> rfl)
theorem s_whl' : denS G (.whl t b) A ρ C = ∃ n, whlGo (tst G t) (blk G b) A n ρ C := rfl
theorem s_ret' : denS G (.ret e) A ρ C = denE G e ρ C fun d _ C1 => A.rt d C1 := rfl
theorem s_ret0' : denS G .ret0 A ρ C = A.rt .non C := rfl
theorem s_pass' : denS G .pass A ρ C = A.nx ρ C := rfl
theorem s_brk' : denS G .brk A ρ C = A.bk ρ C := rfl
theorem s_cnt' : denS G .cnt A ρ C = A.ct ρ C := rfl
theorem l_comp' (own : List Nat) (el : E) (c : Oc) : denL G (.comp own el tg it c) ρ C P = denI G it ρ C fun ds ρ1 C1 => compGo (turn G own el tg c ρ1) ds [] C1 fun acc C4 => P acc ρ1 C4 := rfl
def compcK (G : Ctx) (own : List Nat) (el : E) (tg : Tg) (c : Oc) (P : List D → Rho → CM → Prop) (ρ1 : Rho) (C1 : CM) : D → Prop
  | .ref a => ∃ ns : List Int, compGoC a ns (turn G own el tg c ρ1) ns [] C1 fun acc C4 => P acc ρ1 C4
  | _ => False
theorem compcK_e (own : List Nat) (el : E) (c : Oc) (a : Addr) : compcK G own el tg c P ρ C (.ref a) = ∃ ns : List Int, compGoC a ns (turn G own el tg c ρ) ns [] C fun acc C4 => P acc ρ C4 := rfl
theorem l_compc' (own : List Nat) (el : E) (c : Oc) : denL G (.compc own el tg e c) ρ C P = denE G e ρ C fun x ρ1 C1 => compcK G own el tg c P ρ1 C1 x := by
  first
  | rfl
  | (show denE G e ρ C _ = denE G e ρ C _; congr 1; funext d ρ1 C1; cases d <;> rfl)
theorem l_lit' : denL G (.lit es) ρ C P = denEs G es ρ C fun ds ρ1 C1 => ds.length ≤ sizeLine ∧ P ds ρ1 C1 := rfl
theorem l_cat' (x y : E) : denL G (.cat x y) ρ C P = denE G x ρ C fun x ρ1 C1 => denE G y ρ1 C1 fun y ρ2 C2 => ∃ xs ys, lstD C2 x = some xs ∧ lstD C2 y = some ys ∧ xs.length + ys.length ≤ sizeLine ∧ P (xs ++ ys) ρ2 C2 := rfl
theorem l_rvd' : denL G (.rvd e) ρ C P = denE G e ρ C fun x ρ1 C1 => ∃ xs, lstD C1 x = some xs ∧ P xs.reverse ρ1 C1 := rfl
theorem l_lrv' : denL G (.lrv e) ρ C P = denE G e ρ C fun x ρ1 C1 => ∃ xs, lstD C1 x = some xs ∧ P xs.reverse ρ1 C1 := rfl
theorem l_ls2' : denL G (.ls2 e) ρ C P = denE G e ρ C fun x ρ1 C1 => ∃ xs, lstD C1 x = some xs ∧ P (xs.take (xs.length - 1)).reverse ρ1 C1 := rfl
theorem l_list' : denL G (.list e) ρ C P = denE G e ρ C fun x ρ1 C1 => ∃ xs, sqD x = some xs ∧ P xs ρ1 C1 := by
  show denE G e ρ C _ = denE G e ρ C _
  congr 1; funext x ρ1 C1
  cases x with
  | tup xs => exact propext ⟨fun h => ⟨_, rfl, h⟩, fun ⟨_, h, q⟩ => by cases h; exact q⟩
  | lst xs => exact propext ⟨fun h => ⟨_, rfl, h⟩, fun ⟨_, h, q⟩ => by cases h; exact q⟩
  | _ => exact propext ⟨fun h => h.elim, fun ⟨_, h, q⟩ => by cases h⟩
def srtK (P : List D → Rho → CM → Prop) (ρ1 : Rho) (C1 : CM) : D → Prop
  | .lst xs => ∃ ns, intsOf xs = some ns ∧ P ((sortI ns).map D.int) ρ1 C1
  | _ => False
theorem srtK_e (xs : List D) : srtK P ρ C (.lst xs) = ∃ ns, intsOf xs = some ns ∧ P ((sortI ns).map D.int) ρ C := rfl
theorem l_srt' : denL G (.srt e) ρ C P = denE G e ρ C fun x ρ1 C1 => srtK P ρ1 C1 x := by
  first
  | rfl
  | (show denE G e ρ C _ = denE G e ρ C _; congr 1; funext x ρ1 C1; cases x <;> rfl)
def srrK (P : List D → Rho → CM → Prop) (ρ1 : Rho) (C1 : CM) : D → Prop
  | .lst xs => ∃ ns, intsOf xs = some ns ∧ P ((sortI ns).reverse.map D.int) ρ1 C1
  | _ => False
theorem srrK_e (xs : List D) : srrK P ρ C (.lst xs) = ∃ ns, intsOf xs = some ns ∧ P ((sortI ns).reverse.map D.int) ρ C := rfl
theorem l_srr' : denL G (.srr e) ρ C P = denE G e ρ C fun x ρ1 C1 => srrK P ρ1 C1 x := by
  first
  | rfl
  | (show denE G e ρ C _ = denE G e ρ C _; congr 1; funext x ρ1 C1; cases x <;> rfl)
def lrgK (P : List D → Rho → CM → Prop) (ρ1 : Rho) (C1 : CM) : D → D → Prop
  | .int i, .int j => RgOk i j ∧ P (rangeD i 1 (j - i).toNat) ρ1 C1
  | _, _ => False
theorem lrgK_e (i j : Int) : lrgK P ρ C (.int i) (.int j) = (RgOk i j ∧ P (rangeD i 1 (j - i).toNat) ρ C) := rfl
theorem l_lrg1' : denL G (.lrg1 e) ρ C P = denE G e ρ C fun x ρ1 C1 => lrgK P ρ1 C1 (.int 0) x := by
  first
  | rfl
  | (show denE G e ρ C _ = denE G e ρ C _; congr 1; funext x ρ1 C1; cases x <;> rfl)
theorem l_lrg2' (x y : E) : denL G (.lrg2 x y) ρ C P = denE G x ρ C fun x ρ1 C1 => denE G y ρ1 C1 fun y ρ2 C2 => lrgK P ρ2 C2 x y := by
  first
  | rfl
  | (show denE G x ρ C _ = denE G x ρ C _; congr 1; funext x ρ1 C1; congr 1; funext y ρ2 C2; cases x <;> cases y <;> rfl)
def repK (P : List D → Rho → CM → Prop) (ρ1 : Rho) (C1 : CM) : D → D → Prop
  | .lst xs, .int k => -(2 ^ 63) ≤ k ∧ k < 2 ^ 63 ∧ xs.length * k.toNat ≤ sizeLine ∧ P (List.replicate k.toNat xs).flatten ρ1 C1
  | _, _ => False
theorem repK_e (xs : List D) (k : Int) : repK P ρ C (.lst xs) (.int k) = (-(2 ^ 63) ≤ k ∧ k < 2 ^ 63 ∧ xs.length * k.toNat ≤ sizeLine ∧ P (List.replicate k.toNat xs).flatten ρ C) := rfl
theorem l_rep' (x y : E) : denL G (.rep x y) ρ C P = denE G x ρ C fun x ρ1 C1 => denE G y ρ1 C1 fun y ρ2 C2 => repK P ρ2 C2 x y := by
  first
  | rfl
  | (show denE G x ρ C _ = denE G x ρ C _; congr 1; funext x ρ1 C1; congr 1; funext y ρ2 C2; cases x <;> cases y <;> rfl)
end
/-- slots set -/
def setM (ρ : Rho) : List Nat → List (Option Dv) → Rho
  | m :: ms, x :: xs => setM (ρ.set m x) ms xs
  | _, _ => ρ
theorem setM_nil (ρ : Rho) (xs : List (Option Dv)) : setM ρ [] xs = ρ := by cases xs <;> rfl
theorem setM_cons (ρ : Rho) (m : Nat) (ms : List Nat) (x : Option Dv) (xs : List (Option Dv)) : setM ρ (m :: ms) (x :: xs) = setM (ρ.set m x) ms xs := rfl
/-- a loop by what holds behind so many turns; slots ms alone are changed -/
theorem for_m {α : Type} (g : α → D) (ms : List Nat) (I : List α → List (Option Dv) → CM → Prop) {tg : Tg} {body : AEnds → Rho → CM → Prop} {A : AEnds} {xs : List α} {ρ : Rho} {C : CM} (ys0 : List (Option Dv)) (e0 : setM ρ ms ys0 = ρ) (h0 : I [] ys0 C)
    (step : ∀ done x rest ys C, xs = done ++ x :: rest → I done ys C → ∀ nx : Rho → CM → Prop, (∀ ys' C', I (done ++ [x]) ys' C' → nx (setM ρ ms ys') C') → bindT tg (g x) (setM ρ ms ys) fun ρ1 => body { A with nx := nx, ct := nx, bk := A.nx } ρ1 C)
    (hend : ∀ ys C, I xs ys C → A.nx (setM ρ ms ys) C) : forGo tg body A (xs.map g) ρ C := by
  refine for_invL g (I := fun done ρ' C' => ∃ ys, ρ' = setM ρ ms ys ∧ I done ys C') ⟨ys0, e0.symm, h0⟩ (fun done x rest ρ' C' e ⟨ys, hy, hi⟩ nx k => ?_) fun ρ' C' ⟨ys, hy, hi⟩ => ?_
  · subst hy
    exact step done x rest ys C' e hi nx fun ys' C'' h => k _ _ ⟨ys', rfl, h⟩
  · subst hy; exact hend ys C' hi
/-- over a cell's numbers -/
theorem for_cell {ns : List Int} {a : Addr} (ms : List Nat) (I : List (Option Dv) → CM → Prop) {tg : Tg} {body : AEnds → Rho → CM → Prop} {A : AEnds} {ρ : Rho} {C : CM} (ys0 : List (Option Dv)) (e0 : setM ρ ms ys0 = ρ) (h0 : I ys0 C) (hc : ∀ ys C, I ys C → C a = some (.lst (ns.map .int)))
    (step : ∀ x ∈ ns, ∀ ys C, I ys C → ∀ nx : Rho → CM → Prop, (∀ ys' C', I ys' C' → nx (setM ρ ms ys') C') → bindT tg (.int x) (setM ρ ms ys) fun ρ1 => body { A with nx := nx, ct := nx, bk := A.nx } ρ1 C)
    (hend : ∀ ys C, I ys C → A.nx (setM ρ ms ys) C) : forGoC a ns tg body A ns ρ C := by
  have key : ∀ (l : List Int) (ys : List (Option Dv)) (C : CM), (∀ x ∈ l, x ∈ ns) → I ys C → forGoC a ns tg body A l (setM ρ ms ys) C := by
    intro l
    induction l with
    | nil => intro ys C _ hI; exact ⟨hc ys C hI, hend ys C hI⟩
    | cons x l ih =>
      intro ys C hm hI
      exact ⟨hc ys C hI, step x (hm x List.mem_cons_self) ys C hI _ fun ys' C' hI' => ih ys' C' (fun z hz => hm z (List.mem_cons_of_mem _ hz)) hI'⟩
  rw [← e0]
  exact key ns ys0 C (fun _ h => h) h0
/-- .. that ends with False at the first that isn't so -/
theorem for_all {α : Type} (g : α → D) (p : α → Bool) (ms : List Nat) {tg : Tg} {body : AEnds → Rho → CM → Prop} {A : AEnds} {xs : List α} {ρ : Rho} {C : CM} (m : Nat) (ys0 : List (Option Dv)) (e0 : setM ρ ms ys0 = ρ) (l0 : ys0.length = m)
    (step : ∀ x ∈ xs, ∀ ys, ys.length = m → ∀ nx : Rho → CM → Prop, (p x = true → ∀ ys', ys'.length = m → nx (setM ρ ms ys') C) → (p x = false → A.rt (.bl false) C) → bindT tg (g x) (setM ρ ms ys) fun ρ1 => body { A with nx := nx, ct := nx, bk := A.nx } ρ1 C)
    (hend : xs.all p = true → ∀ ys, ys.length = m → A.nx (setM ρ ms ys) C) (hf : xs.all p = false → A.rt (.bl false) C) : forGo tg body A (xs.map g) ρ C := by
  have key : ∀ (l : List α) (ρ' : Rho) (ys : List (Option Dv)), ρ' = setM ρ ms ys → ys.length = m → (∀ x ∈ l, x ∈ xs) → (l.all p = true → ∀ ys, ys.length = m → A.nx (setM ρ ms ys) C) → (l.all p = false → A.rt (.bl false) C) → forGo tg body A (l.map g) ρ' C := by
    intro l
    induction l with
    | nil => intro ρ' ys e hl _ h1 _; subst e; exact h1 rfl ys hl
    | cons x l ih =>
      intro ρ' ys e hl hin h1 h2
      subst e
      refine step x (hin x List.mem_cons_self) ys hl _ (fun hp ys' hl' => ih _ ys' rfl hl' (fun y hy => hin y (List.mem_cons_of_mem _ hy)) (fun q => h1 ?_) (fun q => h2 ?_)) fun hp => h2 ?_
      · rw [List.all_cons, hp, q]; rfl
      · rw [List.all_cons, hp, q]; rfl
      · rw [List.all_cons, hp]; rfl
  exact key xs ρ ys0 e0.symm l0 (fun _ h => h) hend hf
/-- a comprehension by what holds behind so many turns -/
theorem comp_invL {α β : Type} (g : α → D) (f : β → D) (I : List α → List β → CM → Prop) {tn : D → CM → (Option D → CM → Prop) → Prop} {xs : List α} {C : CM} {P : List D → CM → Prop} (hl : xs.length ≤ sizeLine) (hlen : ∀ done acc C, I done acc C → acc.length ≤ done.length) (h0 : I [] [] C)
    (step : ∀ done x rest acc C, xs = done ++ x :: rest → I done acc C → ∀ K : Option D → CM → Prop, (∀ y C', I (done ++ [x]) (acc ++ [y]) C' → K (some (f y)) C') → (∀ C', I (done ++ [x]) acc C' → K none C') → tn (g x) C K)
    (hend : ∀ acc C, I xs acc C → P (acc.map f) C) : compGo tn (xs.map g) [] C P := by
  have key : ∀ (rest done : List α) (acc : List β) (C : CM), xs = done ++ rest → I done acc C → compGo tn (rest.map g) (acc.map f) C P := by
    intro rest
    induction rest with
    | nil => intro done acc C e i; rw [List.append_nil] at e; subst e; exact hend acc C i
    | cons d rest ih =>
      intro done acc C e i
      have h1 := hlen done acc C i
      have h2 : xs.length = done.length + (rest.length + 1) := by rw [e, List.length_append, List.length_cons]
      refine step done d rest acc C e i _ (fun y C' j => ⟨by rw [List.length_map]; omega, ?_⟩) (fun C' j => ih (done ++ [d]) acc C' (by rw [e, List.append_assoc]; rfl) j)
      have := ih (done ++ [d]) (acc ++ [y]) C' (by rw [e, List.append_assoc]; rfl) j
      rw [List.map_append] at this
      exact this
  exact key xs [] [] C rfl h0
/-- a list made of a cell's numbers, one by one -/
theorem compC_map {a : Addr} {ns : List Int} {C : CM} (f : Int → D) {tn : D → CM → (Option D → CM → Prop) → Prop} {P : List D → CM → Prop} (hc : C a = some (.lst (ns.map .int))) (hl : ns.length ≤ sizeLine)
    (step : ∀ x ∈ ns, ∀ K : Option D → CM → Prop, K (some (f x)) C → tn (.int x) C K) (hend : P (ns.map f) C) : compGoC a ns tn ns [] C P := by
  have key : ∀ (l done : List Int), ns = done ++ l → compGoC a ns tn l (done.map f) C P := by
    intro l
    induction l with
    | nil => intro done e; rw [List.append_nil] at e; exact ⟨hc, by rw [← e]; exact hend⟩
    | cons x l ih =>
      intro done e
      refine ⟨hc, step x (by rw [e]; simp) _ ⟨?_, ?_⟩⟩
      · have h2 : ns.length = done.length + (l.length + 1) := by rw [e, List.length_append, List.length_cons]
        rw [List.length_map]; omega
      · have := ih (done ++ [x]) (by rw [e, List.append_assoc]; rfl)
        rw [List.map_append] at this
        exact this
  exact key ns [] rfl
/-- two ways that go on alike -/
theorem ite_join {c : Prop} {dc : Decidable c} {X : Prop} {α : Type} (Gd : α → CM → Prop) (Q : α → CM → Prop) {s : α} {C : CM} (h0 : Gd s C) (hX : (∀ s' C', Gd s' C' → Q s' C') → X) (h : ∀ s' C', Gd s' C' → Q s' C') : if c then X else Q s C := by
  split
  · exact hX h
  · exact h s C h0
/-- what stands behind a statement, folded -/
theorem cut_tail' {G : Ctx} {s : S} {ss : Ss} {A : AEnds} {ρ : Rho} {C : CM} (tl : ∀ N : Rho → CM → Prop, (∀ ρ' C', blk G ss A ρ' C' → N ρ' C') → denS G s { A with nx := N } ρ C) : blk G (.cons s ss) A ρ C := tl (blk G ss A) fun _ _ h => h
end M61

set_option Elab.async false
set_option linter.all false
set_option autoImplicit false
set_option maxRecDepth 100000
/-! P20b: k31's deck begun. -/
namespace M61.B31
open PySem PySem.Spec PyProof.Rows L2
local macro_rules
  | `(tactic| simp_arith! [$ls,*] $[$loc:location]?) => `(tactic| try simp only [wipeR_cons, wipeR_nil, eq_self, denE, denT, denEs, denO, denC, denI, bindT_nm, bindT_tp, bindT_tl, bindTs_nil, bindTs_cons, varD_0, varD_s, varM_own0, varM_dat0, varM_s, varO_0, varO_s, varL_own0, varL_ref0, varL_s, sz, cp1, cp2, cp3, cp4, cp5, cp6, cp7, cp8, cp9, cp10, cp11, cp12, cp15, cp18, add_i, add_t, add_l, add_s, add_b, sub_b, sub_i, mul_i, mul_t, mul_l, fdiv_i, mod_i, pow_i, shl_i, eq_r, ne_r, inn_t, nin_t, inn_l, nin_l, lt_r, lt_tt, le_r, gt_r, ge_r, is_n, isn_n, is_b, isn_b, isNon_n, isNon_i, isNon_t, isNon_l, isNon_b, isNon_s, tru_n, tru_b, tru_i, tru_t, tru_l, ix_t, ix_l, ix_c, ix_r, cellAt_l, cellL_l, lstD_l, lstD_r, sqD_t, sqD_l, sl_t, sl_l, sl_c, sl_r, rev_t, rev_l, len_t, len_l, len_c, len_r, tup_t, tup_l, tup_r, sum_t, sum_l, sum_r, min_t, min_l, max_t, max_l, min_2, max_2, min_3, repr_r, str_ri, abs_i, int_i, int_b, all_l, any_l, ty_bb, ty_bi, ty_bn, ty_bt, ty_ss, ty_sn, ty_si, ty_sb, ty_ii, ty_ib, ty_in, ty_it, ty_tt, ty_tn, ty_ti, ty_tb, ty_ll, ty_lt, ty_is, ty_il, ty_bs, ty_blst, ty_st, ty_sl, ty_ts, ty_tl, ty_ln, ty_li, ty_lb, ty_ls, intsOf_map, boolsOf_map, pair_Cmp, int_Cmp, bl_Cmp, non_Cmp, ints_Cmp, intst_Cmp, eqv_int, eqv_bl, eqv_ints, eqv_intst, List.map_cons, List.map_nil, List.replicate_succ, List.replicate_zero, List.cons_append, List.nil_append, List.set_cons_zero, List.set_cons_succ, List.length_cons, List.length_nil, List.getElem?_cons_zero, List.getElem?_cons_succ, List.eraseIdx_cons_zero, Nat.reduceSub, Nat.reduceAdd, Nat.reduceLT, Nat.reduceLeDiff, Nat.reducePow, Nat.reduceEqDiff, Nat.reduceMul, Int.reducePow, Int.reduceToNat, Int.reduceMul, Int.reduceAdd, Int.reduceSub, Int.reduceNeg, Int.reduceLT, Int.reduceLE, Int.reduceEq, Int.reduceBEq, Int.reduceBNe, zero_add', not_true_eq_false, not_false_eq_true, Bool.true_eq_false, false_and, and_false, true_and, and_true, exists_eq_left', exists_and_left, Option.some.injEq, Cell.lst.injEq, Cell.dct.injEq, if_pos_true, reduceIte, Bool.false_eq_true, decide_true, decide_false, Bool.not_true, Bool.not_false, Bool.not_eq_true', Bool.and_true, Bool.true_and, decide_eq_true_eq, decide_eq_false_iff_not, ite_self, List.isEmpty_cons, List.isEmpty_nil, ss_nil', ss_cons', s_set', s_own', s_setF', s_unp', s_par2', par2K_e, s_par3', par3K_e, s_app', s_ext', extK_e, s_exp', s_csub', csubK_e, s_dset', dsetK_e, s_capp', cappK_e, s_aug', augK_a, augK_s, s_oset', osetK_e, s_ife', s_for', s_forc', forcK_e, s_whl', s_ret', s_ret0', s_pass', s_brk', s_cnt', l_comp', l_compc', compcK_e, l_lit', l_cat', l_rvd', l_lrv', l_ls2', l_list', l_srt', srtK_e, l_srr', srrK_e, l_lrg1', l_lrg2', lrgK_e, l_rep', repK_e, setM_nil, setM_cons, Int.toNat_natCast, List.length_map, exists_eq_left, $ls,*] $[$loc]?)
local macro_rules
  | `(tactic| simp_all_arith! [$ls,*]) => `(tactic| ((try simp only [wipeR_cons, wipeR_nil, eq_self, denE, denT, denEs, denO, denC, denI, bindT_nm, bindT_tp, bindT_tl, bindTs_nil, bindTs_cons, varD_0, varD_s, varM_own0, varM_dat0, varM_s, varO_0, varO_s, varL_own0, varL_ref0, varL_s, sz, cp1, cp2, cp3, cp4, cp5, cp6, cp7, cp8, cp9, cp10, cp11, cp12, cp15, cp18, add_i, add_t, add_l, add_s, add_b, sub_b, sub_i, mul_i, mul_t, mul_l, fdiv_i, mod_i, pow_i, shl_i, eq_r, ne_r, inn_t, nin_t, inn_l, nin_l, lt_r, lt_tt, le_r, gt_r, ge_r, is_n, isn_n, is_b, isn_b, isNon_n, isNon_i, isNon_t, isNon_l, isNon_b, isNon_s, tru_n, tru_b, tru_i, tru_t, tru_l, ix_t, ix_l, ix_c, ix_r, cellAt_l, cellL_l, lstD_l, lstD_r, sqD_t, sqD_l, sl_t, sl_l, sl_c, sl_r, rev_t, rev_l, len_t, len_l, len_c, len_r, tup_t, tup_l, tup_r, sum_t, sum_l, sum_r, min_t, min_l, max_t, max_l, min_2, max_2, min_3, repr_r, str_ri, abs_i, int_i, int_b, all_l, any_l, ty_bb, ty_bi, ty_bn, ty_bt, ty_ss, ty_sn, ty_si, ty_sb, ty_ii, ty_ib, ty_in, ty_it, ty_tt, ty_tn, ty_ti, ty_tb, ty_ll, ty_lt, ty_is, ty_il, ty_bs, ty_blst, ty_st, ty_sl, ty_ts, ty_tl, ty_ln, ty_li, ty_lb, ty_ls, intsOf_map, boolsOf_map, pair_Cmp, int_Cmp, bl_Cmp, non_Cmp, ints_Cmp, intst_Cmp, eqv_int, eqv_bl, eqv_ints, eqv_intst, List.map_cons, List.map_nil, List.replicate_succ, List.replicate_zero, List.cons_append, List.nil_append, List.set_cons_zero, List.set_cons_succ, List.length_cons, List.length_nil, List.getElem?_cons_zero, List.getElem?_cons_succ, List.eraseIdx_cons_zero, Nat.reduceSub, Nat.reduceAdd, Nat.reduceLT, Nat.reduceLeDiff, Nat.reducePow, Nat.reduceEqDiff, Nat.reduceMul, Int.reducePow, Int.reduceToNat, Int.reduceMul, Int.reduceAdd, Int.reduceSub, Int.reduceNeg, Int.reduceLT, Int.reduceLE, Int.reduceEq, Int.reduceBEq, Int.reduceBNe, zero_add', not_true_eq_false, not_false_eq_true, Bool.true_eq_false, false_and, and_false, true_and, and_true, exists_eq_left', exists_and_left, Option.some.injEq, Cell.lst.injEq, Cell.dct.injEq, if_pos_true, reduceIte, Bool.false_eq_true, decide_true, decide_false, Bool.not_true, Bool.not_false, Bool.not_eq_true', Bool.and_true, Bool.true_and, decide_eq_true_eq, decide_eq_false_iff_not, ite_self, List.isEmpty_cons, List.isEmpty_nil, ss_nil', ss_cons', s_set', s_own', s_setF', s_unp', s_par2', par2K_e, s_par3', par3K_e, s_app', s_ext', extK_e, s_exp', s_csub', csubK_e, s_dset', dsetK_e, s_capp', cappK_e, s_aug', augK_a, augK_s, s_oset', osetK_e, s_ife', s_for', s_forc', forcK_e, s_whl', s_ret', s_ret0', s_pass', s_brk', s_cnt', l_comp', l_compc', compcK_e, l_lit', l_cat', l_rvd', l_lrv', l_ls2', l_list', l_srt', srtK_e, l_srr', srrK_e, l_lrg1', l_lrg2', lrgK_e, l_rep', repK_e, setM_nil, setM_cons, Int.toNat_natCast, List.length_map, exists_eq_left, $ls,*]); (repeat ((with_reducible (first | refine blk_of ?_ | refine turn_of ?_ | refine tst_of ?_)); (try simp only [wipeR_cons, wipeR_nil, eq_self, denE, denT, denEs, denO, denC, denI, bindT_nm, bindT_tp, bindT_tl, bindTs_nil, bindTs_cons, varD_0, varD_s, varM_own0, varM_dat0, varM_s, varO_0, varO_s, varL_own0, varL_ref0, varL_s, sz, cp1, cp2, cp3, cp4, cp5, cp6, cp7, cp8, cp9, cp10, cp11, cp12, cp15, cp18, add_i, add_t, add_l, add_s, add_b, sub_b, sub_i, mul_i, mul_t, mul_l, fdiv_i, mod_i, pow_i, shl_i, eq_r, ne_r, inn_t, nin_t, inn_l, nin_l, lt_r, lt_tt, le_r, gt_r, ge_r, is_n, isn_n, is_b, isn_b, isNon_n, isNon_i, isNon_t, isNon_l, isNon_b, isNon_s, tru_n, tru_b, tru_i, tru_t, tru_l, ix_t, ix_l, ix_c, ix_r, cellAt_l, cellL_l, lstD_l, lstD_r, sqD_t, sqD_l, sl_t, sl_l, sl_c, sl_r, rev_t, rev_l, len_t, len_l, len_c, len_r, tup_t, tup_l, tup_r, sum_t, sum_l, sum_r, min_t, min_l, max_t, max_l, min_2, max_2, min_3, repr_r, str_ri, abs_i, int_i, int_b, all_l, any_l, ty_bb, ty_bi, ty_bn, ty_bt, ty_ss, ty_sn, ty_si, ty_sb, ty_ii, ty_ib, ty_in, ty_it, ty_tt, ty_tn, ty_ti, ty_tb, ty_ll, ty_lt, ty_is, ty_il, ty_bs, ty_blst, ty_st, ty_sl, ty_ts, ty_tl, ty_ln, ty_li, ty_lb, ty_ls, intsOf_map, boolsOf_map, pair_Cmp, int_Cmp, bl_Cmp, non_Cmp, ints_Cmp, intst_Cmp, eqv_int, eqv_bl, eqv_ints, eqv_intst, List.map_cons, List.map_nil, List.replicate_succ, List.replicate_zero, List.cons_append, List.nil_append, List.set_cons_zero, List.set_cons_succ, List.length_cons, List.length_nil, List.getElem?_cons_zero, List.getElem?_cons_succ, List.eraseIdx_cons_zero, Nat.reduceSub, Nat.reduceAdd, Nat.reduceLT, Nat.reduceLeDiff, Nat.reducePow, Nat.reduceEqDiff, Nat.reduceMul, Int.reducePow, Int.reduceToNat, Int.reduceMul, Int.reduceAdd, Int.reduceSub, Int.reduceNeg, Int.reduceLT, Int.reduceLE, Int.reduceEq, Int.reduceBEq, Int.reduceBNe, zero_add', not_true_eq_false, not_false_eq_true, Bool.true_eq_false, false_and, and_false, true_and, and_true, exists_eq_left', exists_and_left, Option.some.injEq, Cell.lst.injEq, Cell.dct.injEq, if_pos_true, reduceIte, Bool.false_eq_true, decide_true, decide_false, Bool.not_true, Bool.not_false, Bool.not_eq_true', Bool.and_true, Bool.true_and, decide_eq_true_eq, decide_eq_false_iff_not, ite_self, List.isEmpty_cons, List.isEmpty_nil, ss_nil', ss_cons', s_set', s_own', s_setF', s_unp', s_par2', par2K_e, s_par3', par3K_e, s_app', s_ext', extK_e, s_exp', s_csub', csubK_e, s_dset', dsetK_e, s_capp', cappK_e, s_aug', augK_a, augK_s, s_oset', osetK_e, s_ife', s_for', s_forc', forcK_e, s_whl', s_ret', s_ret0', s_pass', s_brk', s_cnt', l_comp', l_compc', compcK_e, l_lit', l_cat', l_rvd', l_lrv', l_ls2', l_list', l_srt', srtK_e, l_srr', srrK_e, l_lrg1', l_lrg2', lrgK_e, l_rep', repK_e, setM_nil, setM_cons, Int.toNat_natCast, List.length_map, exists_eq_left, $ls,*])))))
def i_law_begun : Def := ⟨1, 4,
  (.cons (.set 1 (.cel (.list (.sl (.var 0) .no (.yes (.int 63))))))
  (.cons (.set 2 (.int 29))
  (.cons (.forc (.nm 3) (.var 1) (.cons (.set 2 (.bin .mod (.bin .add (.bin .add (.bin .mul (.var 2) (.int 69621)) (.bin .mod (.var 3) (.int 2147483563))) (.int 3)) (.int 2147483629)))
  .nil))
  (.cons (.ret (.cel (.lit (.cons (.var 1) (.cons (.var 2) (.cons (.int 0) .nil))))))
  .nil))))⟩
def DeckR (ds : List D) (C : CM) (P : D → CM → Prop) : Prop := ∃ ns : List Int, ds = [.scr (ns.map .int)] ∧ ns.length ≤ 63 ∧ ∀ a b C', Deck a b C' → P (.ref a) C'
theorem begun_ok {G : Ctx} {C : CM} {P : D → CM → Prop} {ns : List Int} (hl : ns.length ≤ 63) (k : ∀ a b C', Deck a b C' → P (.ref a) C') : denF G i_law_begun [.scr (ns.map .int)] C P := by
  refine ⟨rfl, ?_⟩
  have e63 : (63 : Int) = ((63 : Nat) : Int) := rfl
  simp_all_arith! [i_law_begun, cutD_map]
  rw [e63, cut_to, List.take_of_length_le hl]
  simp_all_arith! []
  intro b hb
  simp_all_arith! []
  refine ⟨ns, ?_⟩
  refine for_cell [2, 3] (fun ys C' => ∃ (s : Int) (x3 : Option Dv), ys = [some (.dat (.int s)), x3] ∧ C' = fun y => if y = b then some (Cell.lst (ns.map D.int)) else C y) [_, _] rfl ⟨_, _, rfl, rfl⟩ (fun ys C' ⟨s, x3, _, hc⟩ => by rw [hc]; exact if_pos rfl) (fun x _ ys C' ⟨s, x3, hy, hc⟩ nx knx => ?_) fun ys C' ⟨s, x3, hy, hc⟩ => ?_
  · subst hy hc
    simp_all_arith! []
    exact ⟨B8.cmul_r _ _ (by decide), knx [_, _] _ ⟨_, _, rfl, rfl⟩⟩
  · subst hy hc
    simp_all_arith! []
    intro a ha
    have hab : a ≠ b := fun e => by rw [e, if_pos rfl] at ha; cases ha
    exact ⟨_, sub_refl _, k a b _ ⟨ns, _, _, hab, if_pos rfl, by show (if b = a then _ else if b = b then _ else C b) = _; rw [if_neg hab.symm, if_pos rfl], hl⟩⟩
theorem sp_begun {tb : List (String × Def)} (h : tb.lookup "_law_begun" = some i_law_begun) : Sp tb "_law_begun" 1 DeckR :=
  sp_mk h fun n hn ds C P ex ⟨ns, e, hl, k⟩ => by subst e; exact begun_ok hl k
end M61.B31

set_option Elab.async false
set_option linter.all false
set_option autoImplicit false
set_option maxRecDepth 100000
namespace M61.k69
open PySem PySem.Spec PyProof.Rows L2
def istretch_in : Def := ⟨1, 4,
  (.cons (.setF 1 (.comp [2, 3] (.var 2) (.tp (.cons (.nm 2) (.cons (.nm 3) .nil))) (.enum (.var 0)) (.yes (.cmp .isn (.var 3) .non))))
  (.cons (.ife (.or (.ceq (.var 1)) (.cmp .ne (.bin .sub (.ix (.var 1) (.neg (.int 1))) (.ix (.var 1) (.int 0))) (.bin .sub (.blt .len (.cons (.var 1) .nil)) (.int 1)))) (.cons (.ret .non)
  .nil) .nil)
  (.cons (.ret (.tup (.cons (.ix (.var 1) (.int 0)) (.cons (.ix (.var 1) (.neg (.int 1))) .nil))))
  .nil)))⟩
def iis_stepped : Def := ⟨1, 5,
  (.cons (.setF 1 (.comp [2] (.call "stretch_in" (.cons (.var 2) .nil)) (.nm 2) (.seq (.var 0)) .no))
  (.cons (.ife (.cmp .inn .non (.var 1)) (.cons (.ret (.bl false))
  .nil) .nil)
  (.cons (.ret (.blt .all (.cons (.frz (.comp [3, 4] (.and (.cmp .le (.ix (.var 3) (.int 0)) (.ix (.var 4) (.int 0))) (.cmp .le (.ix (.var 3) (.int 1)) (.ix (.var 4) (.int 1)))) (.tp (.cons (.nm 3) (.cons (.nm 4) .nil))) (.zip (.sl (.var 1) .no (.yes (.neg (.int 1)))) (.sl (.var 1) (.yes (.int 1)) .no)) .no)) .nil)))
  .nil)))⟩
def iis_crooked_two : Def := ⟨4, 4,
  (.cons (.ife (.or (.cmp .is (.ix (.var 0) (.var 3)) .non) (.cmp .is (.ix (.var 1) (.var 2)) .non)) (.cons (.ret (.bl false))
  .nil) .nil)
  (.cons (.ife (.or (.cmp .is (.ix (.var 0) (.var 2)) .non) (.cmp .is (.ix (.var 1) (.var 3)) .non)) (.cons (.ret (.bl true))
  .nil) .nil)
  (.cons (.ret (.cmp .gt (.bin .add (.ix (.var 0) (.var 2)) (.ix (.var 1) (.var 3))) (.bin .add (.ix (.var 0) (.var 3)) (.ix (.var 1) (.var 2)))))
  .nil)))⟩
def ifirst_crooked : Def := ⟨2, 7,
  (.cons (.unp (.tp (.cons (.nm 3) (.cons (.nm 4) (.cons (.nm 5) (.cons (.nm 6) .nil))))) (.tup (.cons .non (.cons .non (.cons (.bl false) (.cons (.bl false) .nil))))))
  (.cons (.for (.nm 2) (.rvr1 (.blt .len (.cons (.var 0) .nil))) (.cons (.ife (.cmp .isn (.ix (.var 1) (.var 2)) .non) (.cons (.ife (.or (.val (.var 6)) (.and (.val (.var 5)) (.cmp .is (.ix (.var 0) (.var 2)) .non))) (.cons (.set 3 (.var 2))
  .nil) (.cons (.ife (.and (.cmp .isn (.var 4) .non) (.cmp .gt (.bin .sub (.ix (.var 0) (.var 2)) (.ix (.var 1) (.var 2))) (.var 4))) (.cons (.set 3 (.var 2))
  .nil) .nil)
  .nil))
  .nil) .nil)
  (.cons (.ife (.cmp .isn (.ix (.var 0) (.var 2)) .non) (.cons (.set 5 (.bl true))
  (.cons (.ife (.cmp .is (.ix (.var 1) (.var 2)) .non) (.cons (.set 6 (.bl true))
  .nil) (.cons (.ife (.or (.cmp .is (.var 4) .non) (.cmp .lt (.bin .sub (.ix (.var 0) (.var 2)) (.ix (.var 1) (.var 2))) (.var 4))) (.cons (.set 4 (.bin .sub (.ix (.var 0) (.var 2)) (.ix (.var 1) (.var 2))))
  .nil) .nil)
  .nil))
  .nil)) .nil)
  .nil)))
  (.cons (.ret (.var 3))
  .nil)))⟩
def icrook_between : Def := ⟨2, 4,
  (.cons (.set 2 (.call "first_crooked" (.cons (.var 0) (.cons (.var 1) .nil))))
  (.cons (.ife (.cmp .is (.var 2) .non) (.cons (.ret .non)
  .nil) .nil)
  (.cons (.ret (.tup (.cons (.var 2) (.cons (.blt .min (.cons (.frz (.comp [3] (.var 3) (.nm 3) (.rng2 (.bin .add (.var 2) (.int 1)) (.blt .len (.cons (.var 0) .nil))) (.yes (.val (.call "is_crooked_two" (.cons (.var 0) (.cons (.var 1) (.cons (.var 2) (.cons (.var 3) .nil))))))))) .nil)) .nil))))
  .nil)))⟩
def icrook_of : Def := ⟨1, 5,
  (.cons (.for (.tp (.cons (.nm 1) (.cons (.nm 2) .nil))) (.enum (.var 0)) (.cons (.for (.nm 3) (.rng2 (.bin .add (.var 1) (.int 1)) (.blt .len (.cons (.var 0) .nil))) (.cons (.set 4 (.call "crook_between" (.cons (.var 2) (.cons (.ix (.var 0) (.var 3)) .nil))))
  (.cons (.ife (.cmp .isn (.var 4) .non) (.cons (.ret (.bin .add (.tup (.cons (.var 1) (.cons (.var 3) .nil))) (.var 4)))
  .nil) .nil)
  .nil)))
  .nil))
  (.cons (.ret .non)
  .nil))⟩
def islack_at : Def := ⟨3, 3,
  (.cons (.ife (.or (.cmp .is (.ix (.ix (.var 0) (.var 1)) (.bin .add (.var 2) (.int 1))) .non) (.cmp .is (.ix (.ix (.var 0) (.bin .add (.var 1) (.int 1))) (.var 2)) .non)) (.cons (.ret .non)
  .nil) .nil)
  (.cons (.ret (.bin .sub (.bin .sub (.bin .add (.ix (.ix (.var 0) (.var 1)) (.bin .add (.var 2) (.int 1))) (.ix (.ix (.var 0) (.bin .add (.var 1) (.int 1))) (.var 2))) (.ix (.ix (.var 0) (.var 1)) (.var 2))) (.ix (.ix (.var 0) (.bin .add (.var 1) (.int 1))) (.bin .add (.var 2) (.int 1)))))
  .nil))⟩
def islacks : Def := ⟨1, 4,
  (.cons (.own 1 (.lit .nil))
  (.cons (.for (.nm 2) (.rng1 (.bin .sub (.blt .len (.cons (.var 0) .nil)) (.int 1))) (.cons (.app 1 (.blt .tuple (.cons (.frz (.comp [3] (.call "slack_at" (.cons (.var 0) (.cons (.var 2) (.cons (.var 3) .nil)))) (.nm 3) (.rng1 (.bin .sub (.blt .len (.cons (.ix (.var 0) (.int 0)) .nil)) (.int 1))) .no)) .nil)))
  .nil))
  (.cons (.ret (.blt .tuple (.cons (.mv 1) .nil)))
  .nil)))⟩
def iare_good : Def := ⟨1, 2,
  (.cons (.ret (.blt .all (.cons (.frz (.comp [1] (.or (.cmp .is (.var 1) .non) (.cmp .ge (.var 1) (.int 0))) (.nm 1) (.seq (.var 0)) .no)) .nil)))
  .nil)⟩
def ibends : Def := ⟨1, 2,
  (.cons (.ife (.val (.call "is_stepped" (.cons (.var 0) .nil))) (.cons (.ret (.blt .all (.cons (.frz (.comp [1] (.call "are_good" (.cons (.var 1) .nil)) (.nm 1) (.seq (.call "slacks" (.cons (.var 0) .nil))) .no)) .nil)))
  .nil) .nil)
  (.cons (.ret (.cmp .is (.call "crook_of" (.cons (.var 0) .nil)) .non))
  .nil))⟩
def ibend_of : Def := ⟨1, 6,
  (.cons (.set 1 (.call "slacks" (.cons (.var 0) .nil)))
  (.cons (.set 2 (.blt .all (.cons (.frz (.comp [4] (.blt .all (.cons (.frz (.comp [5] (.cmp .ge (.var 5) (.int 0)) (.nm 5) (.seq (.var 4)) .no)) .nil)) (.nm 4) (.seq (.var 1)) .no)) .nil)))
  (.cons (.set 3 (.blt .all (.cons (.frz (.comp [4] (.blt .all (.cons (.frz (.comp [5] (.cmp .le (.var 5) (.int 0)) (.nm 5) (.seq (.var 4)) .no)) .nil)) (.nm 4) (.seq (.var 1)) .no)) .nil)))
  (.cons (.ret (.ix (.ix (.frz (.lit (.cons (.frz (.lit (.cons (.str "none") (.cons (.str "other") .nil)))) (.cons (.frz (.lit (.cons (.str "one") (.cons (.str "both") .nil)))) .nil)))) (.blt .int (.cons (.var 2) .nil))) (.blt .int (.cons (.var 3) .nil))))
  .nil))))⟩
def i_law_deck : Def := ⟨1, 4,
  (.cons (.set 1 (.frz (.list (.sl (.var 0) .no (.yes (.int 63))))))
  (.cons (.set 2 (.int 48271))
  (.cons (.for (.nm 3) (.seq (.var 1)) (.cons (.set 2 (.bin .mod (.bin .add (.bin .add (.bin .mul (.var 2) (.int 69621)) (.bin .mod (.var 3) (.int 1000000007))) (.int 3)) (.int 2147483629)))
  .nil))
  (.cons (.ret (.cel (.lit (.cons (.cel (.lrv (.var 1))) (.cons (.var 2) (.cons (.int 0) .nil))))))
  .nil))))⟩
def i_law_draw : Def := ⟨2, 4,
  (.cons (.csub (.var 0) (.int 2) (.bin .add (.ix (.var 0) (.int 2)) (.int 1)))
  (.cons (.set 2 (.ix (.var 0) (.int 1)))
  (.cons (.ife (.cne (.ix (.var 0) (.int 0))) (.cons (.set 2 (.cpop (.ix (.var 0) (.int 0))))
  (.cons (.ife (.cmp .ge (.var 2) (.bin .pow (.int 10) (.int 18))) (.cons (.capp (.ix (.var 0) (.int 0)) (.bin .fdiv (.var 2) (.var 1)))
  (.cons (.ret (.bin .mod (.var 2) (.var 1)))
  .nil)) .nil)
  .nil)) .nil)
  (.cons (.set 3 (.bin .mod (.bin .mul (.bin .add (.bin .add (.bin .mod (.var 2) (.int 2147483629)) (.bin .mul (.int 7919) (.ix (.var 0) (.int 2)))) (.int 31)) (.int 48271)) (.int 2147483647)))
  (.cons (.set 3 (.bin .mod (.bin .add (.bin .add (.bin .mul (.var 3) (.var 3)) (.bin .mul (.int 69621) (.ix (.var 0) (.int 2)))) (.int 7)) (.int 2147483587)))
  (.cons (.ret (.bin .mod (.bin .fdiv (.bin .mod (.bin .mul (.var 3) (.int 16807)) (.int 2147483563)) (.int 64)) (.var 1)))
  .nil))))))⟩
def i_law_number : Def := ⟨2, 2,
  (.cons (.ife (.or (.cmp .eq (.var 1) (.int 3)) (.cmp .eq (.var 1) (.int 4))) (.cons (.ret (.bin .sub (.bin .add (.bin .mul (.call "_law_draw" (.cons (.var 0) (.cons (.int 200) .nil))) (.bin .pow (.int 10) (.int 6))) (.call "_law_draw" (.cons (.var 0) (.cons (.bin .pow (.int 10) (.int 6)) .nil)))) (.bin .pow (.int 10) (.int 8))))
  .nil) .nil)
  (.cons (.ret (.ix (.frz (.lit (.cons (.int 0) (.cons (.bin .sub (.call "_law_draw" (.cons (.var 0) (.cons (.int 19) .nil))) (.int 9)) (.cons (.call "_law_draw" (.cons (.var 0) (.cons (.int 3) .nil))) .nil))))) (.var 1)))
  .nil))⟩
def i_law_slack : Def := ⟨2, 2,
  (.cons (.ife (.cmp .eq (.var 1) (.int 3)) (.cons (.ret (.call "_law_draw" (.cons (.var 0) (.cons (.bin .pow (.int 10) (.int 6)) .nil))))
  .nil) .nil)
  (.cons (.ret (.call "_law_draw" (.cons (.var 0) (.cons (.ix (.frz (.lit (.cons (.int 1) (.cons (.int 4) (.cons (.int 2) (.cons (.int 1) (.cons (.int 2) .nil))))))) (.var 1)) .nil))))
  .nil))⟩
def i_law_full : Def := ⟨1, 11,
  (.cons (.set 1 (.call "_law_draw" (.cons (.var 0) (.cons (.int 5) .nil))))
  (.cons (.set 2 (.cmp .eq (.call "_law_draw" (.cons (.var 0) (.cons (.int 8) .nil))) (.int 5)))
  (.cons (.unp (.tp (.cons (.nm 6) (.cons (.nm 7) .nil))) (.ix (.frz (.lit (.cons (.tup (.cons (.bin .add (.int 1) (.call "_law_draw" (.cons (.var 0) (.cons (.int 6) .nil)))) (.cons (.bin .add (.int 1) (.call "_law_draw" (.cons (.var 0) (.cons (.int 6) .nil)))) .nil))) (.cons (.tup (.cons (.int 12) (.cons (.int 12) .nil))) .nil)))) (.blt .int (.cons (.var 2) .nil))))
  (.cons (.own 3 (.lit (.cons (.frz (.comp [9] (.call "_law_number" (.cons (.var 0) (.cons (.var 1) .nil))) (.nm 9) (.rng1 (.var 7)) .no)) .nil)))
  (.cons (.set 4 (.tup (.cons (.bin .add (.int 1) (.call "_law_draw" (.cons (.var 0) (.cons (.int 12) .nil)))) (.cons (.bin .add (.int 1) (.call "_law_draw" (.cons (.var 0) (.cons (.int 12) .nil)))) .nil))))
  (.cons (.for (.nm 5) (.rng2 (.int 1) (.var 6)) (.cons (.own 8 (.lit (.cons (.call "_law_number" (.cons (.var 0) (.cons (.var 1) .nil))) .nil)))
  (.cons (.for (.nm 9) (.rng2 (.int 1) (.var 7)) (.cons (.set 10 (.call "_law_slack" (.cons (.var 0) (.cons (.var 1) .nil))))
  (.cons (.ife (.and (.cmp .eq (.var 1) (.int 4)) (.cmp .eq (.tup (.cons (.var 5) (.cons (.var 9) .nil))) (.var 4))) (.cons (.set 10 (.bin .add (.bin .mul (.call "_law_draw" (.cons (.var 0) (.cons (.int 500) .nil))) (.bin .pow (.int 10) (.int 6))) (.call "_law_draw" (.cons (.var 0) (.cons (.bin .pow (.int 10) (.int 6)) .nil)))))
  .nil) .nil)
  (.cons (.app 8 (.bin .sub (.bin .sub (.bin .add (.oix 8 (.neg (.int 1))) (.ix (.oix 3 (.neg (.int 1))) (.var 9))) (.ix (.oix 3 (.neg (.int 1))) (.bin .sub (.var 9) (.int 1)))) (.var 10)))
  .nil))))
  (.cons (.app 3 (.mv 8))
  .nil))))
  (.cons (.ret (.blt .tuple (.cons (.frz (.comp [8] (.blt .tuple (.cons (.mv 8) .nil)) (.nm 8) (.seq (.mv 3)) .no)) .nil)))
  .nil)))))))⟩
def i_law_put : Def := ⟨3, 9,
  (.cons (.set 3 (.call "_law_draw" (.cons (.var 0) (.cons (.int 6) .nil))))
  (.cons (.par2 7 8 (.cons (.call "_law_draw" (.cons (.var 0) (.cons (.blt .len (.cons (.var 1) .nil)) .nil))) (.cons (.call "_law_draw" (.cons (.var 0) (.cons (.blt .len (.cons (.ix (.var 1) (.int 0)) .nil)) .nil))) .nil)))
  (.cons (.set 4 (.ix (.ix (.var 1) (.var 7)) (.var 8)))
  (.cons (.ife (.cmp .is (.var 4) .non) (.cons (.ret (.var 1))
  .nil) .nil)
  (.cons (.set 5 (.ix (.frz (.lit (.cons (.int 1) (.cons (.bin .sub (.int 0) (.int 1)) (.cons (.bin .sub (.call "_law_draw" (.cons (.var 0) (.cons (.int 9) .nil))) (.int 4)) (.cons (.bin .mul (.bin .mul (.int 5) (.bin .pow (.int 10) (.int 7))) (.bin .sub (.int 1) (.bin .mul (.int 2) (.call "_law_draw" (.cons (.var 0) (.cons (.int 2) .nil)))))) (.cons (.int 2) (.cons (.int 0) .nil)))))))) (.var 3)))
  (.cons (.set 4 (.bin .add (.var 4) (.var 5)))
  (.cons (.ife (.and (.cmp .eq (.var 3) (.int 5)) (.val (.var 2))) (.cons (.set 4 .non)
  .nil) .nil)
  (.cons (.set 6 (.bin .add (.bin .add (.sl (.ix (.var 1) (.var 7)) .no (.yes (.var 8))) (.tup (.cons (.var 4) .nil))) (.sl (.ix (.var 1) (.var 7)) (.yes (.bin .add (.var 8) (.int 1))) .no)))
  (.cons (.ret (.bin .add (.bin .add (.sl (.var 1) .no (.yes (.var 7))) (.tup (.cons (.var 6) .nil))) (.sl (.var 1) (.yes (.bin .add (.var 7) (.int 1))) .no)))
  .nil)))))))))⟩
def i_law_one_way : Def := ⟨2, 5,
  (.cons (.set 2 (.call "_law_full" (.cons (.var 0) .nil)))
  (.cons (.ife (.cmp .eq (.var 1) (.int 1)) (.cons (.set 2 (.blt .tuple (.cons (.frz (.comp [3] (.rev (.var 3)) (.nm 3) (.seq (.var 2)) .no)) .nil)))
  .nil) .nil)
  (.cons (.ife (.cmp .eq (.var 1) (.int 2)) (.cons (.set 2 (.blt .tuple (.cons (.frz (.comp [3] (.blt .tuple (.cons (.frz (.comp [4] (.bin .sub (.int 0) (.var 4)) (.nm 4) (.seq (.var 3)) .no)) .nil)) (.nm 3) (.seq (.var 2)) .no)) .nil)))
  .nil) .nil)
  (.cons (.ret (.var 2))
  .nil))))⟩
def i_law_way_drawn : Def := ⟨1, 5,
  (.cons (.set 1 (.call "_law_draw" (.cons (.var 0) (.cons (.int 3) .nil))))
  (.cons (.set 2 (.call "_law_draw" (.cons (.var 0) (.cons (.int 4) .nil))))
  (.cons (.set 3 (.call "_law_one_way" (.cons (.var 0) (.cons (.var 1) .nil))))
  (.cons (.for (.nm 4) (.rng1 (.ix (.frz (.lit (.cons (.int 0) (.cons (.int 0) (.cons (.int 1) (.cons (.int 2) .nil)))))) (.var 2))) (.cons (.set 3 (.call "_law_put" (.cons (.var 0) (.cons (.var 3) (.cons (.bl false) .nil)))))
  .nil))
  (.cons (.ret (.var 3))
  .nil)))))⟩
def i_law_bend_due : Def := ⟨1, 7,
  (.cons (.own 1 (.lit .nil))
  (.cons (.for (.tp (.cons (.nm 2) (.cons (.nm 3) .nil))) (.zip (.sl (.var 0) .no (.yes (.neg (.int 1)))) (.sl (.var 0) (.yes (.int 1)) .no)) (.cons (.for (.nm 4) (.rng1 (.bin .sub (.blt .len (.cons (.var 2) .nil)) (.int 1))) (.cons (.app 1 (.bin .sub (.bin .sub (.bin .add (.ix (.var 2) (.bin .add (.var 4) (.int 1))) (.ix (.var 3) (.var 4))) (.ix (.var 2) (.var 4))) (.ix (.var 3) (.bin .add (.var 4) (.int 1)))))
  .nil))
  .nil))
  (.cons (.par2 5 6 (.cons (.cne (.frz (.comp [2] (.var 2) (.nm 2) (.seq (.mv 1)) (.yes (.cmp .lt (.var 2) (.int 0)))))) (.cons (.cne (.frz (.comp [2] (.var 2) (.nm 2) (.seq (.mv 1)) (.yes (.cmp .gt (.var 2) (.int 0)))))) .nil)))
  (.cons (.ife (.val (.var 5)) (.cons (.ret (.ix (.frz (.lit (.cons (.str "other") (.cons (.str "none") .nil)))) (.blt .int (.cons (.var 6) .nil))))
  .nil) .nil)
  (.cons (.ret (.ix (.frz (.lit (.cons (.str "both") (.cons (.str "one") .nil)))) (.blt .int (.cons (.var 6) .nil))))
  .nil)))))⟩
def i_law_told : Def := ⟨2, 3,
  (.cons (.set 2 (.call "bends" (.cons (.var 0) .nil)))
  (.cons (.ret (.and (.isi (.var 2) .bool) (.cmp .eq (.var 2) (.var 1))))
  .nil))⟩
def i_law_right : Def := ⟨1, 5,
  (.cons (.set 1 (.call "_law_bend_due" (.cons (.var 0) .nil)))
  (.cons (.for (.nm 2) (.rng1 (.int 2)) (.cons (.set 3 (.call "bend_of" (.cons (.var 0) .nil)))
  (.cons (.ife (.or (.not (.val (.isi (.var 3) .str))) (.cmp .ne (.var 3) (.var 1))) (.cons (.ret (.bl false))
  .nil) .nil)
  .nil)))
  (.cons (.ife (.not (.val (.call "_law_told" (.cons (.var 0) (.cons (.cmp .inn (.var 1) (.tup (.cons (.str "one") (.cons (.str "both") .nil)))) .nil))))) (.cons (.ret (.bl false))
  .nil) .nil)
  (.cons (.ret (.call "_law_told" (.cons (.blt .tuple (.cons (.frz (.comp [4] (.rev (.var 4)) (.nm 4) (.seq (.var 0)) .no)) .nil)) (.cons (.cmp .inn (.var 1) (.tup (.cons (.str "other") (.cons (.str "both") .nil)))) .nil))))
  .nil))))⟩
def ilaw : Def := ⟨1, 3,
  (.cons (.set 1 (.call "_law_deck" (.cons (.var 0) .nil)))
  (.cons (.ife (.cmp .ne (.call "bend_of" (.cons (.tup (.cons (.tup (.cons (.call "_law_draw" (.cons (.var 1) (.cons (.int 9) .nil))) .nil)) .nil)) .nil)) (.str "both")) (.cons (.ret (.bl false))
  .nil) .nil)
  (.cons (.for (.nm 2) (.rng1 (.blt .max2 (.cons (.int 1) (.cons (.blt .min2 (.cons (.int 4) (.cons (.blt .len (.cons (.var 0) .nil)) .nil))) .nil)))) (.cons (.ife (.not (.val (.call "_law_right" (.cons (.call "_law_way_drawn" (.cons (.var 1) .nil)) .nil)))) (.cons (.ret (.bl false))
  .nil) .nil)
  .nil))
  (.cons (.ret (.bl true))
  .nil))))⟩
def tabD : List (String × Def) := [("stretch_in", istretch_in), ("is_stepped", iis_stepped), ("is_crooked_two", iis_crooked_two), ("first_crooked", ifirst_crooked), ("crook_between", icrook_between), ("crook_of", icrook_of), ("slack_at", islack_at), ("slacks", islacks), ("are_good", iare_good), ("bends", ibends), ("bend_of", ibend_of), ("_law_deck", i_law_deck), ("_law_draw", i_law_draw), ("_law_number", i_law_number), ("_law_slack", i_law_slack), ("_law_full", i_law_full), ("_law_put", i_law_put), ("_law_one_way", i_law_one_way), ("_law_way_drawn", i_law_way_drawn), ("_law_bend_due", i_law_bend_due), ("_law_told", i_law_told), ("_law_right", i_law_right), ("law", ilaw)]
end M61.k69

set_option Elab.async false
set_option linter.all false
set_option autoImplicit false
set_option maxRecDepth 100000
namespace M61.k69
open PySem PySem.Spec PyProof.Rows L2
local macro_rules
  | `(tactic| simp_arith! [$ls,*] $[$loc:location]?) => `(tactic| try simp only [wipeR_cons, wipeR_nil, eq_self, denSs, denS, denE, denT, denEs, denO, denC, denL, denI, bindT_nm, bindT_tp, bindT_tl, bindTs_nil, bindTs_cons, varD_0, varD_s, varM_own0, varM_dat0, varM_s, varO_0, varO_s, varL_own0, varL_ref0, varL_s, sz, cp1, cp2, cp3, cp4, cp5, cp6, cp7, cp8, cp9, cp10, cp11, cp12, cp15, cp18, add_i, add_t, add_l, add_s, add_b, sub_b, sub_i, mul_i, mul_t, mul_l, fdiv_i, mod_i, pow_i, shl_i, eq_r, ne_r, inn_t, nin_t, inn_l, nin_l, lt_r, lt_tt, le_r, gt_r, ge_r, is_n, isn_n, is_b, isn_b, isNon_n, isNon_i, isNon_t, isNon_l, isNon_b, isNon_s, tru_n, tru_b, tru_i, tru_t, tru_l, ix_t, ix_l, ix_c, ix_r, cellAt_l, cellL_l, lstD_l, lstD_r, sqD_t, sqD_l, sl_t, sl_l, sl_c, sl_r, rev_t, rev_l, len_t, len_l, len_c, len_r, tup_t, tup_l, tup_r, sum_t, sum_l, sum_r, min_t, min_l, max_t, max_l, min_2, max_2, min_3, repr_r, str_ri, abs_i, int_i, int_b, all_l, any_l, ty_bb, ty_bi, ty_bn, ty_bt, ty_ss, ty_sn, ty_si, ty_sb, ty_ii, ty_ib, ty_in, ty_it, ty_tt, ty_tn, ty_ti, ty_tb, ty_ll, ty_lt, ty_is, ty_il, ty_bs, ty_blst, ty_st, ty_sl, ty_ts, ty_tl, ty_ln, ty_li, ty_lb, ty_ls, intsOf_map, boolsOf_map, pair_Cmp, int_Cmp, bl_Cmp, non_Cmp, ints_Cmp, intst_Cmp, eqv_int, eqv_bl, eqv_ints, eqv_intst, List.map_cons, List.map_nil, List.replicate_succ, List.replicate_zero, List.cons_append, List.nil_append, List.set_cons_zero, List.set_cons_succ, List.length_cons, List.length_nil, List.getElem?_cons_zero, List.getElem?_cons_succ, List.eraseIdx_cons_zero, Nat.reduceSub, Nat.reduceAdd, Nat.reduceLT, Nat.reduceLeDiff, Nat.reducePow, Nat.reduceEqDiff, Nat.reduceMul, Int.reducePow, Int.reduceToNat, Int.reduceMul, Int.reduceAdd, Int.reduceSub, Int.reduceNeg, Int.reduceLT, Int.reduceLE, Int.reduceEq, Int.reduceBEq, Int.reduceBNe, zero_add', not_true_eq_false, not_false_eq_true, Bool.true_eq_false, false_and, and_false, true_and, and_true, exists_eq_left', exists_and_left, Option.some.injEq, Cell.lst.injEq, Cell.dct.injEq, if_pos_true, reduceIte, Bool.false_eq_true, decide_true, decide_false, Bool.not_true, Bool.not_false, Bool.not_eq_true', Bool.and_true, Bool.true_and, decide_eq_true_eq, decide_eq_false_iff_not, ite_self, List.isEmpty_cons, List.isEmpty_nil, $ls,*] $[$loc]?)
/-! ### full tables -/
def rD (r : List Int) : D := .tup (r.map .int)
def tbD (t : List (List Int)) : D := .tup (t.map rD)
def Row (t : List (List Int)) (i : Nat) : List Int := (t[i]?).getD []
def cI (r : List Int) (k : Nat) : Int := (r[k]?).getD 0
structure WF (t : List (List Int)) (w : Nat) : Prop where
  h1 : 1 ≤ t.length
  h2 : t.length ≤ 12
  w1 : 1 ≤ w
  w2 : w ≤ 12
  row : ∀ r ∈ t, r.length = w
theorem at_row {t : List (List Int)} {i : Nat} (h : i < t.length) : atI (t.map rD) (i : Int) = some (rD (Row t i)) := by
  rw [atI_map, atI_nat (List.getElem?_eq_getElem h)]
  unfold Row
  rw [List.getElem?_eq_getElem h]; rfl
theorem at_cell {r : List Int} {k : Nat} (h : k < r.length) : atI (r.map D.int) (k : Int) = some (.int (cI r k)) := by
  rw [atI_map, atI_nat (List.getElem?_eq_getElem h)]
  unfold cI
  rw [List.getElem?_eq_getElem h]; rfl
theorem Row_mem {t : List (List Int)} {i : Nat} (h : i < t.length) : Row t i ∈ t := by
  unfold Row
  rw [List.getElem?_eq_getElem h]
  exact List.getElem_mem h
theorem WF.rl {t : List (List Int)} {w i : Nat} (W : WF t w) (h : i < t.length) : (Row t i).length = w := W.row _ (Row_mem h)
def sk (r s : List Int) (k : Nat) : Int := cI r (k + 1) + cI s k - cI r k - cI s (k + 1)
def srow (w : Nat) (r s : List Int) : List Int := (List.range (w - 1)).map (sk r s)
def slk (w : Nat) (t : List (List Int)) : List (List Int) := (List.range (t.length - 1)).map fun i => srow w (Row t i) (Row t (i + 1))
def one (w : Nat) (t : List (List Int)) : Bool := (slk w t).all fun r => r.all fun x => decide (0 ≤ x)
def oth (w : Nat) (t : List (List Int)) : Bool := (slk w t).all fun r => r.all fun x => decide (x ≤ 0)
def dstr (o p : Bool) : String := if o then (if p then "both" else "one") else (if p then "other" else "none")
section
variable {tb : List (String × Def)} {n : Nat} {a b : Addr} {C : CM} {P : D → CM → Prop} {ex : Exc → CM → Prop} {G : Ctx}
theorem slack_at_ok {t : List (List Int)} {w i k : Nat} (W : WF t w) (hi : i + 1 < t.length) (hk : k + 1 < w) (kk : P (.int (sk (Row t i) (Row t (i + 1)) k)) C) : denF G islack_at [tbD t, .int (i : Int), .int (k : Int)] C P := by
  refine ⟨rfl, ?_⟩
  have ei : (i : Int) + 1 = ((i + 1 : Nat) : Int) := by omega
  have ek : (k : Int) + 1 = ((k + 1 : Nat) : Int) := by omega
  have r1 := W.rl (show i < t.length by omega)
  have r2 := W.rl hi
  simp_arith! [islack_at, tbD, ei, ek, at_row hi, at_row (show i < t.length by omega), rD, at_cell (show k < (Row t i).length by omega), at_cell (show k + 1 < (Row t i).length by omega), at_cell (show k < (Row t (i + 1)).length by omega), at_cell (show k + 1 < (Row t (i + 1)).length by omega)]
  exact ⟨C, sub_refl _, kk⟩
def SlackAtR (ds : List D) (C : CM) (P : D → CM → Prop) : Prop := ∃ t w i k, ds = [tbD t, .int ((i : Nat) : Int), .int ((k : Nat) : Int)] ∧ WF t w ∧ i + 1 < t.length ∧ k + 1 < w ∧ P (.int (sk (Row t i) (Row t (i + 1)) k)) C
def TabR (f : Nat → List (List Int) → D) (ds : List D) (C : CM) (P : D → CM → Prop) : Prop := ∃ t w, ds = [tbD t] ∧ WF t w ∧ P (f w t) C
theorem slacks_ok (hs : Sp tb "slack_at" 1 SlackAtR) (hn : 1 ≤ n) {t : List (List Int)} {w : Nat} (W : WF t w) (kk : P (tbD (slk w t)) C) : denF ⟨Gm tb n, ex⟩ islacks [tbD t] C P := by
  refine ⟨rfl, ?_⟩
  have W' := W
  obtain ⟨h1, h2, w1, w2, hr⟩ := W'
  have e0 : atI (t.map rD) 0 = some (rD (Row t 0)) := at_row (i := 0) (by omega)
  have e1 : ((t.length : Int) - 1).toNat = t.length - 1 := by omega
  have e2 : ((w : Int) - 1).toNat = w - 1 := by omega
  simp_arith! [islacks, tbD, List.length_map, e1, rangeD_map]
  refine ⟨by omega, by omega, ?_⟩
  refine for_invL (fun i : Nat => .int (i : Int)) (I := fun done ρ C' => ∃ (ys : List D) (x2 x3 : Option Dv), ρ = [some (.dat (tbD t)), some (.own ys), x2, x3] ∧ C' = C ∧ ys = done.map fun i => rD (srow w (Row t i) (Row t (i + 1)))) ⟨_, _, _, rfl, rfl, rfl⟩ (fun done x rest ρ C1 e ⟨ys, x2, x3, hρ, hc, hy⟩ nx knx => ?_) fun ρ C1 ⟨ys, x2, x3, hρ, hc, hy⟩ => ?_
  · subst hρ hc
    have hx : x < t.length - 1 := by
      have : x ∈ List.range (t.length - 1) := by rw [e]; simp
      exact List.mem_range.mp this
    have hd : ys.length < 12 := by
      have : (List.range (t.length - 1)).length = done.length + (rest.length + 1) := by rw [e, List.length_append, List.length_cons]
      rw [List.length_range] at this
      rw [hy, List.length_map]
      omega
    simp_arith! [tbD, e0, rD, List.length_map, W.rl (show 0 < t.length by omega), e2, rangeD_map]
    refine ⟨by omega, by omega, ?_⟩
    refine comp_mapL (fun k : Nat => .int (k : Int)) (fun k => .int (sk (Row t x) (Row t (x + 1)) k)) (by rw [List.length_range, sz]; omega) (fun k hk K kK => ?_) ?_
    · have hk2 := List.mem_range.mp hk
      try simp_arith! []
      exact hs n hn _ _ _ _ ⟨t, w, x, k, rfl, W, by omega, by omega, kK⟩
    · try simp_arith! []
      refine ⟨by omega, knx _ _ ⟨_, _, _, rfl, rfl, ?_⟩⟩
      rw [hy, List.map_append]
      unfold srow rD
      simp only [List.map_map, List.map_cons, List.map_nil]
      rfl
  · subst hρ hc hy
    try simp_arith! []
    refine ⟨C1, sub_refl _, ?_⟩
    unfold slk tbD at kk
    rw [List.map_map] at kk
    exact kk
def RowR (f : List Int → D) (ds : List D) (C : CM) (P : D → CM → Prop) : Prop := ∃ r : List Int, ds = [rD r] ∧ r.length ≤ 12 ∧ P (f r) C
theorem all_map {α : Type} (p : α → Bool) (xs : List α) : (xs.map p).all id = xs.all p := by rw [List.all_map]; rfl
theorem bools_of {α : Type} (p : α → Bool) (xs : List α) : boolsOf (xs.map fun x => D.bl (p x)) = some (xs.map p) := by
  have e : (xs.map fun x => D.bl (p x)) = (xs.map p).map .bl := by rw [List.map_map]; rfl
  rw [e, boolsOf_map]
theorem are_good_ok {r : List Int} (hl : r.length ≤ 12) (kk : P (.bl (r.all fun x => decide (0 ≤ x))) C) : denF G iare_good [rD r] C P := by
  refine ⟨rfl, ?_⟩
  simp_arith! [iare_good, rD]
  refine comp_mapL .int (fun x => .bl (decide (0 ≤ x))) (by rw [sz]; omega) (fun x _ K kK => ?_) ?_
  · try simp_arith! []
    exact kK
  · refine ⟨_, bools_of _ _, C, sub_refl _, ?_⟩
    rw [all_map]; exact kk

theorem idx_of (f : Int → D) (r : List Int) : ((r.zipIdx 0).map fun p => D.int (p.2 : Nat)) = ((List.range r.length).map fun i : Nat => (i : Int)).map .int := by
  rw [List.map_map, List.range_eq_range', ← List.zipIdx_map_snd 0 r, List.map_map]; rfl
theorem range_first {w : Nat} (h : 1 ≤ w) : atI ((List.range w).map fun i : Nat => (i : Int)) 0 = some 0 := by
  refine atI_nat (j := 0) ?_
  rw [List.getElem?_map, List.getElem?_range (by omega)]; rfl
theorem range_last {w : Nat} (h : 1 ≤ w) : atI ((List.range w).map fun i : Nat => (i : Int)) (-1) = some ((w : Int) - 1) := by
  obtain ⟨m, rfl⟩ : ∃ m, w = m + 1 := ⟨w - 1, by omega⟩
  rw [List.range_succ, List.map_append]
  have := atI_last ((List.range m).map fun i : Nat => (i : Int)) (m : Int)
  rw [show ((m + 1 : Nat) : Int) - 1 = (m : Int) by omega]
  exact this
theorem stretch_ok {r : List Int} (h1 : 1 ≤ r.length) (h2 : r.length ≤ 12) (kk : P (.tup [.int 0, .int ((r.length : Int) - 1)]) C) : denF G istretch_in [rD r] C P := by
  refine ⟨rfl, ?_⟩
  simp_arith! [istretch_in, rD, enumD_map]
  refine comp_mapL _ (fun p => .int (p.2 : Nat)) (by rw [List.length_zipIdx, sz]; omega) (fun p _ K kK => ?_) ?_
  · try simp_arith! []
    exact kK
  · rw [idx_of .int]
    have hne : (((List.range r.length).map fun i : Nat => (i : Int)).map D.int).isEmpty = false := by
      obtain ⟨m, hm⟩ : ∃ m, r.length = m + 1 := ⟨r.length - 1, by omega⟩
      rw [hm, List.range_succ_eq_map]; rfl
    try simp_arith! [hne, atI_map, range_first h1, range_last h1, Option.map_some, List.length_map, List.length_range, Int.sub_zero]
    exact ⟨C, sub_refl _, kk⟩
def StrR (ds : List D) (C : CM) (P : D → CM → Prop) : Prop := ∃ r : List Int, ds = [rD r] ∧ 1 ≤ r.length ∧ r.length ≤ 12 ∧ P (.tup [.int 0, .int ((r.length : Int) - 1)]) C
theorem const_map {α β : Type} (xs : List α) (c : β) : (xs.map fun _ => c) = List.replicate xs.length c := by rw [List.map_const']
theorem rep_pures (c : D) (h : c.pure = true) : ∀ m, D.pures (List.replicate m c) = true
  | 0 => rfl
  | m + 1 => by rw [List.replicate_succ]; show (c.pure && D.pures _) = true; rw [h, rep_pures c h m]; rfl
theorem rep_deps (c : D) : ∀ m, D.deps (List.replicate m c) ≤ c.dep
  | 0 => Nat.zero_le _
  | m + 1 => by rw [List.replicate_succ]; show max c.dep (D.deps _) ≤ _; have := rep_deps c m; omega
theorem rep_cans (c : D) (h : c.can = true) : ∀ m, D.cans (List.replicate m c) = true
  | 0 => rfl
  | m + 1 => by rw [List.replicate_succ]; show (c.can && D.cans _) = true; rw [h, rep_cans c h m]; rfl
theorem rep_zip {α : Type} (c : α) : ∀ (m : Nat), (List.replicate m c).dropLast.zip ((List.replicate m c).drop 1) = List.replicate (m - 1) (c, c)
  | 0 => rfl
  | m + 1 => by
    have e : (List.replicate (m + 1) c).drop 1 = List.replicate m c := by rw [List.drop_replicate]; rfl
    have e2 : (List.replicate (m + 1) c).dropLast = List.replicate m c := by rw [List.dropLast_replicate]; rfl
    rw [e, e2, List.zip_replicate']; rfl
theorem stepped_ok (hs : Sp tb "stretch_in" 1 StrR) (hn : 1 ≤ n) {t : List (List Int)} {w : Nat} (W : WF t w) (kk : P (.bl true) C) : denF ⟨Gm tb n, ex⟩ iis_stepped [tbD t] C P := by
  refine ⟨rfl, ?_⟩
  obtain ⟨h1, h2, w1, w2, hr⟩ := W
  simp_arith! [iis_stepped, tbD]
  refine comp_mapL rD (fun _ => .tup [.int 0, .int ((w : Int) - 1)]) (by rw [sz]; omega) (fun r hm K kK => ?_) ?_
  · try simp_arith! []
    refine hs n hn _ _ _ _ ⟨r, rfl, by rw [hr r hm]; omega, by rw [hr r hm]; omega, ?_⟩
    rw [hr r hm]
    try simp_arith! []
    exact kK
  · have eid : ∀ xs : List D, xs = xs.map fun d => d := fun xs => (List.map_id' xs).symm
    rw [const_map]
    have hc : (D.lst (List.replicate t.length (D.tup [.int 0, .int ((w : Int) - 1)]))).Cmp := cmp_of (rep_pures _ rfl _) (by
      have : D.deps _ ≤ _ := rep_deps (D.tup [.int 0, .int ((w : Int) - 1)]) t.length
      have e : D.dep (D.tup [.int 0, .int ((w : Int) - 1)]) = 1 := rfl
      show D.deps _ + 1 ≤ 64
      omega) (rep_cans _ rfl _)
    have ha : ((List.replicate t.length (D.tup [.int 0, .int ((w : Int) - 1)])).any fun z => z.eqv .non) = false := by
      rw [List.any_replicate]
      split <;> rfl
    generalize hL : List.replicate t.length (D.tup [.int 0, .int ((w : Int) - 1)]) = L at hc ha ⊢
    try simp_arith! [ha, hc]
    have z1 := cutD_map (fun d : D => d) L none (some (-1))
    have z2 := cutD_map (fun d : D => d) L (some 1) none
    rw [List.map_id'] at z1 z2
    rw [z1, z2, cut_first, cut_rest, zipD_map]
    refine comp_mapL _ (fun _ => .bl true) (by rw [List.length_zip, List.length_dropLast, ← hL, List.length_replicate, sz]; omega) (fun p hp K kK => ?_) ?_
    · have hp2 : p = (D.tup [.int 0, .int ((w : Int) - 1)], D.tup [.int 0, .int ((w : Int) - 1)]) := by
        rw [← hL, rep_zip] at hp
        exact List.eq_of_mem_replicate hp
      subst hp2
      try simp_arith! [atI_0, atI_1, Int.le_refl, decide_true]
      exact kK
    · have hz : ∀ {α : Type} (ys : List α), boolsOf (ys.map fun _ => D.bl true) = some (ys.map fun _ => true) := fun ys => bools_of (fun _ => true) ys
      refine ⟨_, hz _, C, sub_refl _, ?_⟩
      rw [const_map, List.all_replicate]
      first | exact kk | (simp; exact kk)

theorem slk_len {t : List (List Int)} {w : Nat} (W : WF t w) : (slk w t).length ≤ 12 := by
  unfold slk; rw [List.length_map, List.length_range]; have := W.h2; omega
theorem slk_row {t : List (List Int)} {w : Nat} (W : WF t w) : ∀ r ∈ slk w t, r.length ≤ 12 := by
  intro r h
  unfold slk at h
  obtain ⟨i, _, rfl⟩ := List.mem_map.mp h
  unfold srow; rw [List.length_map, List.length_range]; have := W.w2; omega
def SlacksR := TabR fun w t => tbD (slk w t)
def GoodR := RowR fun r => .bl (r.all fun x => decide (0 ≤ x))
def SteppedR := TabR fun _ _ => .bl true
def BendsR := TabR fun w t => .bl (one w t)
def BendOfR := TabR fun w t => .str (Str.ofString (dstr (one w t) (oth w t)))
theorem bends_ok (h1 : Sp tb "is_stepped" 2 SteppedR) (h2 : Sp tb "slacks" 2 SlacksR) (h3 : Sp tb "are_good" 1 GoodR) (hn : 2 ≤ n) {t : List (List Int)} {w : Nat} (W : WF t w) (kk : P (.bl (one w t)) C) : denF ⟨Gm tb n, ex⟩ ibends [tbD t] C P := by
  refine ⟨rfl, ?_⟩
  simp_arith! [ibends]
  refine h1 n hn _ _ _ _ ⟨t, w, rfl, W, ?_⟩
  try simp_arith! []
  refine h2 n hn _ _ _ _ ⟨t, w, rfl, W, ?_⟩
  try simp_arith! [tbD]
  refine comp_mapL rD (fun r => .bl (r.all fun x => decide (0 ≤ x))) (by have := slk_len W; rw [sz]; omega) (fun r hr K kK => ?_) ?_
  · try simp_arith! []
    exact h3 n (by omega) _ _ _ _ ⟨r, rfl, slk_row W r hr, kK⟩
  · refine ⟨_, bools_of _ _, C, sub_refl _, ?_⟩
    rw [all_map]; exact kk
theorem bend_of_ok (h2 : Sp tb "slacks" 2 SlacksR) (hn : 2 ≤ n) {t : List (List Int)} {w : Nat} (W : WF t w) (kk : P (.str (Str.ofString (dstr (one w t) (oth w t)))) C) : denF ⟨Gm tb n, ex⟩ ibend_of [tbD t] C P := by
  refine ⟨rfl, ?_⟩
  simp_arith! [ibend_of]
  refine h2 n hn _ _ _ _ ⟨t, w, rfl, W, ?_⟩
  try simp_arith! [tbD]
  refine comp_mapL rD (fun r => .bl (r.all fun x => decide (0 ≤ x))) (by have := slk_len W; rw [sz]; omega) (fun r hr K kK => ?_) ?_
  · simp_arith! [rD]
    refine comp_mapL .int (fun x => .bl (decide (0 ≤ x))) (by have := slk_row W r hr; rw [sz]; omega) (fun x _ K2 kK2 => ?_) ?_
    · try simp_arith! []
      exact kK2
    · refine ⟨_, bools_of _ _, ?_⟩
      try simp_arith! []
      rw [all_map]; exact kK
  · refine ⟨_, bools_of _ _, ?_⟩
    rw [all_map]
    have e1 : ((slk w t).all fun r => r.all fun x => decide (0 ≤ x)) = one w t := rfl
    rw [e1]
    try simp_arith! []
    refine comp_mapL rD (fun r => .bl (r.all fun x => decide (x ≤ 0))) (by have := slk_len W; rw [sz]; omega) (fun r hr K kK => ?_) ?_
    · simp_arith! [rD]
      refine comp_mapL .int (fun x => .bl (decide (x ≤ 0))) (by have := slk_row W r hr; rw [sz]; omega) (fun x _ K2 kK2 => ?_) ?_
      · try simp_arith! []
        exact kK2
      · refine ⟨_, bools_of _ _, ?_⟩
        try simp_arith! []
        rw [all_map]; exact kK
    · refine ⟨_, bools_of _ _, ?_⟩
      rw [all_map]
      have e2 : ((slk w t).all fun r => r.all fun x => decide (x ≤ 0)) = oth w t := rfl
      rw [e2]
      generalize one w t = o at kk ⊢
      generalize oth w t = p at kk ⊢
      cases o <;> cases p <;> (try simp_arith! [atI_0, atI_1]; exact ⟨C, sub_refl _, kk⟩)
/-! the law's own look -/
def prs (t : List (List Int)) : List (List Int × List Int) := t.dropLast.zip (t.drop 1)
theorem slk_prs {t : List (List Int)} (w : Nat) : slk w t = (prs t).map fun p => srow w p.1 p.2 := by
  unfold slk prs
  refine List.ext_getElem ?_ fun i h1 h2 => ?_
  · rw [List.length_map, List.length_map, List.length_range, List.length_zip, List.length_dropLast, List.length_drop]; omega
  · rw [List.length_map, List.length_range] at h1
    rw [List.getElem_map, List.getElem_map, List.getElem_range, List.getElem_zip, List.getElem_dropLast, List.getElem_drop]
    unfold Row
    rw [List.getElem?_eq_getElem (show i < t.length by omega), List.getElem?_eq_getElem (show i + 1 < t.length by omega)]
    have e : t[1 + i] = t[i + 1] := by congr 1; omega
    rw [e]; rfl
def flat (w : Nat) (t : List (List Int)) : List Int := (slk w t).flatten
theorem flat_one (w : Nat) (t : List (List Int)) : ((flat w t).filter fun x => decide (x < 0)).isEmpty = one w t := by
  unfold flat one
  rw [Bool.eq_iff_iff, List.isEmpty_iff, List.filter_eq_nil_iff, List.all_eq_true]
  constructor
  · intro h r hr
    rw [List.all_eq_true]
    intro x hx
    have := h x (List.mem_flatten.mpr ⟨r, hr, hx⟩)
    simp only [decide_eq_true_eq] at this ⊢
    omega
  · intro h x hx
    obtain ⟨r, hr, hx⟩ := List.mem_flatten.mp hx
    have := List.all_eq_true.mp (h r hr) x hx
    simp only [decide_eq_true_eq] at this ⊢
    omega
theorem flat_oth (w : Nat) (t : List (List Int)) : ((flat w t).filter fun x => decide (0 < x)).isEmpty = oth w t := by
  unfold flat oth
  rw [Bool.eq_iff_iff, List.isEmpty_iff, List.filter_eq_nil_iff, List.all_eq_true]
  constructor
  · intro h r hr
    rw [List.all_eq_true]
    intro x hx
    have := h x (List.mem_flatten.mpr ⟨r, hr, hx⟩)
    simp only [decide_eq_true_eq] at this ⊢
    omega
  · intro h x hx
    obtain ⟨r, hr, hx⟩ := List.mem_flatten.mp hx
    have := List.all_eq_true.mp (h r hr) x hx
    simp only [decide_eq_true_eq] at this ⊢
    omega
theorem isEmpty_map {α β : Type} (f : α → β) (xs : List α) : (xs.map f).isEmpty = xs.isEmpty := by cases xs <;> rfl
theorem due_ok {t : List (List Int)} {w : Nat} (W : WF t w) (kk : P (.str (Str.ofString (dstr (one w t) (oth w t)))) C) : denF G i_law_bend_due [tbD t] C P := by
  refine ⟨rfl, ?_⟩
  have W' := W
  obtain ⟨h1, h2, w1, w2, hr⟩ := W'
  have e2 : ((w : Int) - 1).toNat = w - 1 := by omega
  simp_arith! [i_law_bend_due, tbD, cutD_map, cut_first, cut_rest, zipD_map]
  have hpl : (prs t).length ≤ 12 := by unfold prs; rw [List.length_zip, List.length_dropLast]; omega
  refine for_invL (fun p : List Int × List Int => .tup [rD p.1, rD p.2]) (xs := prs t) (I := fun done ρ C' => ∃ (ys : List Int) (x2 x3 x4 x5 x6 : Option Dv), ρ = [some (.dat (tbD t)), some (.own (ys.map .int)), x2, x3, x4, x5, x6] ∧ C' = C ∧ ys = (done.map fun p => srow w p.1 p.2).flatten ∧ ys.length ≤ 12 * done.length) ⟨[], _, _, _, _, _, rfl, rfl, rfl, Nat.zero_le _⟩ (fun done p rest ρ C1 e ⟨ys, x2, x3, x4, x5, x6, hρ, hc, hy, hyl⟩ nx knx => ?_) fun ρ C1 ⟨ys, x2, x3, x4, x5, x6, hρ, hc, hy, hyl⟩ => ?_
  · subst hρ hc
    have hm : p ∈ prs t := by rw [e]; simp
    have hm2 := List.of_mem_zip hm
    have l1 : p.1.length = w := hr _ ((List.dropLast_sublist t).subset hm2.1)
    have l2 : p.2.length = w := hr _ (List.mem_of_mem_drop hm2.2)
    have hdl : done.length < 12 := by
      have : (prs t).length = done.length + (rest.length + 1) := by rw [e, List.length_append, List.length_cons]
      omega
    try simp_arith! [rD, List.length_map, l1, e2, rangeD_map]
    refine ⟨by omega, by omega, ?_⟩
    refine for_invL (fun k : Nat => .int (k : Int)) (I := fun done2 ρ C' => ∃ (zs : List Int) (x4 x5 x6 : Option Dv), ρ = [some (.dat (tbD t)), some (.own (zs.map .int)), some (.dat (rD p.1)), some (.dat (rD p.2)), x4, x5, x6] ∧ C' = C1 ∧ zs = ys ++ done2.map (sk p.1 p.2)) ⟨ys, _, _, _, rfl, rfl, by simp⟩ (fun done2 k rest2 ρ C2 e2 ⟨zs, x4, x5, x6, hρ, hc, hz⟩ nx2 knx2 => ?_) fun ρ C2 ⟨zs, x4, x5, x6, hρ, hc, hz⟩ => ?_
    · subst hρ hc
      have hk : k < w - 1 := by
        have : k ∈ List.range (w - 1) := by rw [e2]; simp
        exact List.mem_range.mp this
      have hk2 : done2.length < 12 := by
        have : (List.range (w - 1)).length = done2.length + (rest2.length + 1) := by rw [e2, List.length_append, List.length_cons]
        rw [List.length_range] at this
        omega
      have ek : (k : Int) + 1 = ((k + 1 : Nat) : Int) := by omega
      try simp_arith! [rD, ek, at_cell (show k < p.1.length by omega), at_cell (show k + 1 < p.1.length by omega), at_cell (show k < p.2.length by omega), at_cell (show k + 1 < p.2.length by omega)]
      refine ⟨by rw [List.length_map, hz, List.length_append, List.length_map]; omega, knx2 _ _ ⟨zs ++ [sk p.1 p.2 k], _, _, _, by rw [List.map_append]; rfl, rfl, by rw [hz, List.map_append, List.append_assoc]; rfl⟩⟩
    · subst hρ hc
      refine knx _ _ ⟨zs, _, _, _, _, _, rfl, rfl, ?_, ?_⟩
      · rw [hz, hy, List.map_append, List.flatten_append]
        unfold srow
        simp
      · rw [hz, List.length_append, List.length_append, List.length_map, List.length_range, List.length_singleton]; omega
  · subst hρ hc
    have hf : ys = flat w t := by rw [hy]; unfold flat; rw [slk_prs]
    try simp_arith! []
    refine comp_filterL (fun x => decide (x < 0)) .int .int (by rw [sz]; omega) (fun x _ K kK => ?_) ?_
    · by_cases hx : x < 0
      · try simp_arith! [hx] at kK ⊢; exact kK
      · try simp_arith! [hx] at kK ⊢; exact kK
    try simp_arith! []
    refine comp_filterL (fun x => decide (0 < x)) .int .int (by rw [sz]; omega) (fun x _ K kK => ?_) ?_
    · by_cases hx : 0 < x
      · try simp_arith! [hx] at kK ⊢; exact kK
      · try simp_arith! [hx] at kK ⊢; exact kK
    try simp_arith! [isEmpty_map, hf, flat_one, flat_oth]
    generalize one w t = o at kk ⊢
    generalize oth w t = p at kk ⊢
    cases o <;> cases p <;> (try simp_arith! [atI_0, atI_1]; exact ⟨C1, sub_refl _, kk⟩)

def DueR := TabR fun w t => .str (Str.ofString (dstr (one w t) (oth w t)))
def ToldR (ds : List D) (C : CM) (P : D → CM → Prop) : Prop := ∃ t w v, ds = [tbD t, .bl v] ∧ WF t w ∧ P (.bl (decide (one w t = v))) C
theorem told_ok (hb : Sp tb "bends" 3 BendsR) (hn : 3 ≤ n) {t : List (List Int)} {w : Nat} {v : Bool} (W : WF t w) (kk : P (.bl (decide (one w t = v))) C) : denF ⟨Gm tb n, ex⟩ i_law_told [tbD t, .bl v] C P := by
  refine ⟨rfl, ?_⟩
  simp_arith! [i_law_told]
  refine hb n hn _ _ _ _ ⟨t, w, rfl, W, ?_⟩
  try simp_arith! []
  exact ⟨C, sub_refl _, kk⟩
theorem cI_rev {r : List Int} {k : Nat} (h : k < r.length) : cI r.reverse k = cI r (r.length - 1 - k) := by unfold cI; rw [List.getElem?_reverse h]
theorem Row_map (t : List (List Int)) (i : Nat) (h : i < t.length) : Row (t.map List.reverse) i = (Row t i).reverse := by
  unfold Row; rw [List.getElem?_map, List.getElem?_eq_getElem h]; rfl
theorem WF.rev {t : List (List Int)} {w : Nat} (W : WF t w) : WF (t.map List.reverse) w :=
  ⟨by rw [List.length_map]; exact W.h1, by rw [List.length_map]; exact W.h2, W.w1, W.w2, fun r h => by
    obtain ⟨q, hq, rfl⟩ := List.mem_map.mp h
    rw [List.length_reverse]; exact W.row q hq⟩
theorem one_iff (w : Nat) (t : List (List Int)) : one w t = true ↔ ∀ i k, i + 1 < t.length → k + 1 < w → 0 ≤ sk (Row t i) (Row t (i + 1)) k := by
  unfold one slk srow
  rw [List.all_eq_true]
  constructor
  · intro h i k hi hk
    have := h _ (List.mem_map.mpr ⟨i, List.mem_range.mpr (by omega), rfl⟩)
    have := List.all_eq_true.mp this _ (List.mem_map.mpr ⟨k, List.mem_range.mpr (by omega), rfl⟩)
    exact of_decide_eq_true this
  · intro h r hr
    obtain ⟨i, hi, rfl⟩ := List.mem_map.mp hr
    rw [List.all_eq_true]
    intro x hx
    obtain ⟨k, hk, rfl⟩ := List.mem_map.mp hx
    exact decide_eq_true (h i k (by have := List.mem_range.mp hi; omega) (by have := List.mem_range.mp hk; omega))
theorem oth_iff (w : Nat) (t : List (List Int)) : oth w t = true ↔ ∀ i k, i + 1 < t.length → k + 1 < w → sk (Row t i) (Row t (i + 1)) k ≤ 0 := by
  unfold oth slk srow
  rw [List.all_eq_true]
  constructor
  · intro h i k hi hk
    have := h _ (List.mem_map.mpr ⟨i, List.mem_range.mpr (by omega), rfl⟩)
    have := List.all_eq_true.mp this _ (List.mem_map.mpr ⟨k, List.mem_range.mpr (by omega), rfl⟩)
    exact of_decide_eq_true this
  · intro h r hr
    obtain ⟨i, hi, rfl⟩ := List.mem_map.mp hr
    rw [List.all_eq_true]
    intro x hx
    obtain ⟨k, hk, rfl⟩ := List.mem_map.mp hx
    exact decide_eq_true (h i k (by have := List.mem_range.mp hi; omega) (by have := List.mem_range.mp hk; omega))
theorem sk_rev {r s : List Int} {w k : Nat} (h1 : r.length = w) (h2 : s.length = w) (hk : k + 1 < w) : sk r.reverse s.reverse k = - sk r s (w - 2 - k) := by
  unfold sk
  rw [cI_rev (show k < r.length by omega), cI_rev (show k + 1 < r.length by omega), cI_rev (show k < s.length by omega), cI_rev (show k + 1 < s.length by omega), h1, h2]
  have e1 : w - 1 - k = w - 2 - k + 1 := by omega
  have e2 : w - 1 - (k + 1) = w - 2 - k := by omega
  rw [e1, e2]
  omega
theorem one_rev {t : List (List Int)} {w : Nat} (W : WF t w) : one w (t.map List.reverse) = oth w t := by
  rw [Bool.eq_iff_iff, one_iff, oth_iff, List.length_map]
  constructor
  · intro h i k hi hk
    have := h i (w - 2 - k) hi (by omega)
    rw [Row_map t i (by omega), Row_map t (i + 1) hi, sk_rev (W.rl (by omega)) (W.rl hi) (by omega)] at this
    have e : w - 2 - (w - 2 - k) = k := by omega
    rw [e] at this
    omega
  · intro h i k hi hk
    rw [Row_map t i (by omega), Row_map t (i + 1) hi, sk_rev (W.rl (by omega)) (W.rl hi) hk]
    have := h i (w - 2 - k) hi (by omega)
    omega
theorem str_facts (o p : Bool) : (D.str (Str.ofString (dstr o p))).Cmp ∧ (D.str (Str.ofString (dstr o p))).eqv (.str (Str.ofString (dstr o p))) = true ∧
    (([D.str (Str.ofString "one"), D.str (Str.ofString "both")] : List D).any fun z => z.eqv (.str (Str.ofString (dstr o p)))) = o ∧
    (([D.str (Str.ofString "other"), D.str (Str.ofString "both")] : List D).any fun z => z.eqv (.str (Str.ofString (dstr o p)))) = p := by
  cases o <;> cases p <;> exact ⟨cmp_of rfl (Nat.zero_le _) (by decide +kernel), by decide +kernel, by decide +kernel, by decide +kernel⟩
theorem right_ok (hb : Sp tb "bend_of" 3 BendOfR) (hd : Sp tb "_law_bend_due" 1 DueR) (ht : Sp tb "_law_told" 4 ToldR) (hn : 4 ≤ n) {t : List (List Int)} {w : Nat} (W : WF t w) (kk : P (.bl true) C) : denF ⟨Gm tb n, ex⟩ i_law_right [tbD t] C P := by
  refine ⟨rfl, ?_⟩
  obtain ⟨f1, f2, f3, f4⟩ := str_facts (one w t) (oth w t)
  simp_arith! [i_law_right]
  refine hd n (by omega) _ _ _ _ ⟨t, w, rfl, W, ?_⟩
  generalize hs : D.str (Str.ofString (dstr (one w t) (oth w t))) = S at f1 f2 f3 f4
  have hfl : S.flat = true := by rw [← hs]; rfl
  have hst : isTy .str S = some true := by rw [← hs]; rfl
  simp_arith! [hs, rangeD_map]
  refine for_invL (fun i : Nat => .int (i : Int)) (I := fun _ ρ C' => ∃ (x2 x3 x4 : Option Dv), ρ = [some (.dat (tbD t)), some (.dat S), x2, x3, x4] ∧ C' = C) ⟨_, _, _, rfl, rfl⟩ (fun done k rest ρ C1 e ⟨x2, x3, x4, hρ, hc⟩ nx knx => ?_) fun ρ C1 ⟨x2, x3, x4, hρ, hc⟩ => ?_
  · subst hρ hc
    try simp_arith! []
    refine hb n (by omega) _ _ _ _ ⟨t, w, rfl, W, ?_⟩
    simp_arith! [hs, hst, f1, f2]
    exact knx _ _ ⟨_, _, _, rfl, rfl⟩
  · subst hρ hc
    have g1 : ([D.str (Str.ofString "one"), D.str (Str.ofString "both")] : List D).all D.flat = true := rfl
    have g2 : ([D.str (Str.ofString "other"), D.str (Str.ofString "both")] : List D).all D.flat = true := rfl
    try simp_arith! [hfl, g1, f3]
    refine ht n (by omega) _ _ _ _ ⟨t, w, _, rfl, W, ?_⟩
    try simp_arith! [tbD]
    refine comp_mapL rD (fun r => rD r.reverse) (by have := W.h2; rw [sz]; omega) (fun r _ K kK => ?_) ?_
    · unfold rD at kK ⊢
      rw [List.map_reverse] at kK
      try simp_arith! []
      exact kK
    · have e : (t.map fun r => rD r.reverse) = (t.map List.reverse).map rD := by rw [List.map_map]; rfl
      try simp_arith! [e, hfl, g2, f4]
      refine ht n (by omega) _ _ _ _ ⟨t.map List.reverse, w, _, rfl, W.rev, ?_⟩
      rw [one_rev W]
      try simp_arith! []
      exact ⟨C1, sub_refl _, kk⟩

/-! ### what is drawn -/
def NumR (ds : List D) (C : CM) (P : D → CM → Prop) : Prop := ∃ a b v, ds = [.ref a, .int v] ∧ 0 ≤ v ∧ v < 5 ∧ Deck a b C ∧ ∀ (x : Int) C', Deck a b C' → P (.int x) C'
def FullR (ds : List D) (C : CM) (P : D → CM → Prop) : Prop := ∃ a b, ds = [.ref a] ∧ Deck a b C ∧ ∀ t w C', WF t w → Deck a b C' → P (tbD t) C'
def PutR (ds : List D) (C : CM) (P : D → CM → Prop) : Prop := ∃ a b t w, ds = [.ref a, tbD t, .bl false] ∧ Deck a b C ∧ WF t w ∧ ∀ t C', WF t w → Deck a b C' → P (tbD t) C'
def OneWayR (ds : List D) (C : CM) (P : D → CM → Prop) : Prop := ∃ a b v, ds = [.ref a, .int v] ∧ Deck a b C ∧ ∀ t w C', WF t w → Deck a b C' → P (tbD t) C'
theorem number_ok (hd : Sp tb "_law_draw" 1 DrawR) (hn : 1 ≤ n) {v : Int} (v0 : 0 ≤ v) (v1 : v < 5) (hD : Deck a b C) (k : ∀ (x : Int) C', Deck a b C' → P (.int x) C') : denF ⟨Gm tb n, ex⟩ i_law_number [.ref a, .int v] C P := by
  refine ⟨rfl, ?_⟩
  have big : ∀ {C : CM}, Deck a b C → Gm tb n "_law_draw" [.ref a, .int 200] C (fun d C2 => binR .mul d (.int 1000000) fun d => Gm tb n "_law_draw" [.ref a, .int 1000000] C2 (fun d_1 C2 => binR .add d d_1 fun d => binR .sub d (.int 100000000) fun d => ∃ C'', CM.Sub C'' C2 ∧ P d C'') ex) ex := fun {C} hD => by
    refine use_draw hd hn hD (by decide) (by decide) fun x C1 _ _ hD1 _ => ?_
    try simp_arith! []
    refine ⟨B8.cmul_r _ _ (by decide), use_draw hd hn hD1 (by decide) (by decide) fun y C2 _ _ hD2 _ => ?_⟩
    try simp_arith! []
    exact ⟨C2, sub_refl _, k _ _ hD2⟩
  simp_arith! [i_law_number]
  split
  · exact big hD
  · split
    · exact big hD
    · refine use_draw hd hn hD (by decide) (by decide) fun x C1 _ _ hD1 _ => ?_
      try simp_arith! []
      refine use_draw hd hn hD1 (by decide) (by decide) fun y C2 _ _ hD2 _ => ?_
      try simp_arith! []
      obtain ⟨z, mz, _, e⟩ := atI_in (xs := [D.int 0, D.int (x - 9), D.int y]) (i := v) v0 (by simp only [List.length_cons, List.length_nil]; omega)
      refine ⟨z, e, C2, sub_refl _, ?_⟩
      simp only [List.mem_cons, List.not_mem_nil, or_false] at mz
      rcases mz with rfl | rfl | rfl <;> exact k _ _ hD2
theorem slack_ok (hd : Sp tb "_law_draw" 1 DrawR) (hn : 1 ≤ n) {v : Int} (v0 : 0 ≤ v) (v1 : v < 5) (hD : Deck a b C) (k : ∀ (x : Int) C', Deck a b C' → P (.int x) C') : denF ⟨Gm tb n, ex⟩ i_law_slack [.ref a, .int v] C P := by
  refine ⟨rfl, ?_⟩
  simp_arith! [i_law_slack]
  split
  · refine use_draw hd hn hD (by decide) (by decide) fun x C1 _ _ hD1 _ => ?_
    try simp_arith! []
    exact ⟨C1, sub_refl _, k _ _ hD1⟩
  · obtain ⟨z, mz, _, e⟩ := atI_in (xs := [D.int 1, D.int 4, D.int 2, D.int 1, D.int 2]) (i := v) v0 (by simp only [List.length_cons, List.length_nil]; omega)
    refine ⟨z, e, ?_⟩
    simp only [List.mem_cons, List.not_mem_nil, or_false] at mz
    have go : ∀ m : Int, 0 < m → m < 1073741824 → Gm tb n "_law_draw" [.ref a, .int m] C (fun d C2 => ∃ C'', CM.Sub C'' C2 ∧ P d C'') ex := fun m h0 h1 =>
      use_draw hd hn hD h0 h1 fun x C1 _ _ hD1 _ => ⟨C1, sub_refl _, k _ _ hD1⟩
    rcases mz with rfl | rfl | rfl | rfl | rfl <;> exact go _ (by decide) (by decide)
theorem one_way_ok (hf : Sp tb "_law_full" 3 FullR) (hn : 3 ≤ n) {v : Int} (hD : Deck a b C) (k : ∀ t w C', WF t w → Deck a b C' → P (tbD t) C') : denF ⟨Gm tb n, ex⟩ i_law_one_way [.ref a, .int v] C P := by
  refine ⟨rfl, ?_⟩
  simp_arith! [i_law_one_way]
  refine hf n hn _ _ _ _ ⟨a, b, rfl, hD, fun t w C1 W hD1 => ?_⟩
  have W2 := W.h2
  simp_arith! [tbD]
  split
  · refine comp_mapL rD (fun r => rD r.reverse) (by rw [sz]; omega) (fun r _ K kK => ?_) ?_
    · unfold rD at kK ⊢
      rw [List.map_reverse] at kK
      try simp_arith! []
      exact kK
    · have e : (t.map fun r => rD r.reverse) = (t.map List.reverse).map rD := by rw [List.map_map]; rfl
      have hv : ¬ v = 2 := by omega
      try simp_arith! [e, hv]
      exact ⟨C1, sub_refl _, k _ _ _ W.rev hD1⟩
  · split
    · refine comp_mapL rD (fun r => rD (r.map fun x => 0 - x)) (by rw [sz]; omega) (fun r hr K kK => ?_) ?_
      · have hl := W.row r hr
        have w2 := W.w2
        simp_arith! [rD]
        refine comp_mapL .int (fun x => .int (0 - x)) (by rw [sz]; omega) (fun x _ K2 kK2 => ?_) ?_
        · try simp_arith! []
          exact kK2
        · have e : (r.map fun x => D.int (0 - x)) = (r.map fun x => 0 - x).map .int := by rw [List.map_map]; rfl
          try simp_arith! [e]
          exact kK
      · have e : (t.map fun r => rD (r.map fun x => 0 - x)) = (t.map fun r => r.map fun x => 0 - x).map rD := by rw [List.map_map]; rfl
        try simp_arith! [e]
        refine ⟨C1, sub_refl _, k _ w _ ⟨by rw [List.length_map]; exact W.h1, by rw [List.length_map]; exact W.h2, W.w1, W.w2, fun r h => ?_⟩ hD1⟩
        obtain ⟨q, hq, rfl⟩ := List.mem_map.mp h
        rw [List.length_map]; exact W.row q hq
    · exact ⟨C1, sub_refl _, k _ _ _ W hD1⟩

theorem put_wf {t : List (List Int)} {w i : Nat} {r : List Int} (W : WF t w) (hi : i < t.length) (hr : r.length = w) : WF (t.take i ++ [r] ++ t.drop (i + 1)) w := by
  have hl : (t.take i ++ [r] ++ t.drop (i + 1)).length = t.length := by
    rw [List.length_append, List.length_append, List.length_take, List.length_drop, List.length_singleton]; omega
  refine ⟨by rw [hl]; exact W.h1, by rw [hl]; exact W.h2, W.w1, W.w2, fun q hq => ?_⟩
  rcases List.mem_append.mp hq with h | h
  · rcases List.mem_append.mp h with h | h
    · exact W.row q (List.mem_of_mem_take h)
    · rw [List.mem_singleton.mp h]; exact hr
  · exact W.row q (List.mem_of_mem_drop h)
theorem put_ok (hd : Sp tb "_law_draw" 1 DrawR) (hn : 1 ≤ n) {t : List (List Int)} {w : Nat} (W : WF t w) (hD : Deck a b C) (k : ∀ t C', WF t w → Deck a b C' → P (tbD t) C') : denF ⟨Gm tb n, ex⟩ i_law_put [.ref a, tbD t, .bl false] C P := by
  refine ⟨rfl, ?_⟩
  have W' := W
  obtain ⟨h1, h2, w1, w2, hr⟩ := W'
  have e0 : atI (t.map rD) 0 = some (rD (Row t 0)) := at_row (i := 0) (by omega)
  have r0 := W.rl (show 0 < t.length by omega)
  simp_arith! [i_law_put, tbD, List.length_map]
  refine use_draw hd hn hD (by decide) (by decide) fun q C1 q0 q1 hD1 _ => ?_
  try simp_arith! []
  refine use_draw hd hn hD1 (by omega) (by omega) fun i C2 i0 i1 hD2 _ => ?_
  obtain ⟨i, rfl⟩ : ∃ j : Nat, i = (j : Int) := ⟨i.toNat, by omega⟩
  try simp_arith! [e0, rD, List.length_map, r0]
  refine use_draw hd hn hD2 (by omega) (by omega) fun c C3 c0 c1 hD3 _ => ?_
  obtain ⟨c, rfl⟩ : ∃ j : Nat, c = (j : Int) := ⟨c.toNat, by omega⟩
  have hi : i < t.length := by omega
  have rl := W.rl hi
  have hc : c < (Row t i).length := by omega
  have ei : (i : Int) + 1 = ((i + 1 : Nat) : Int) := by omega
  have ec : (c : Int) + 1 = ((c + 1 : Nat) : Int) := by omega
  have er := at_row hi
  try simp_arith! [er, rD, at_cell hc]
  refine use_draw hd hn hD3 (by decide) (by decide) fun x C4 _ _ hD4 _ => ?_
  try simp_arith! []
  refine ⟨cmul_l _ _ (by decide), use_draw hd hn hD4 (by decide) (by decide) fun y C5 _ _ hD5 _ => ?_⟩
  try simp_arith! []
  refine ⟨cmul_l _ _ (by decide), cmul_l _ _ (by decide), ?_⟩
  have ⟨z, mz, _, e⟩ := atI_in (xs := [D.int 1, D.int (-1), D.int (x - 4), D.int (50000000 * (1 - 2 * y)), D.int 2, D.int 0]) (i := q) q0 (by simp only [List.length_cons, List.length_nil]; omega)
  obtain ⟨m, rfl⟩ : ∃ m : Int, z = .int m := by
    simp only [List.mem_cons, List.not_mem_nil, or_false] at mz
    rcases mz with rfl | rfl | rfl | rfl | rfl | rfl <;> exact ⟨_, rfl⟩
  refine ⟨_, e, ?_⟩
  have e6 : (cutL (Row t i) none (some (c : Int))).map D.int ++ [D.int (cI (Row t i) c + m)] ++ (cutL (Row t i) (some ((c + 1 : Nat) : Int)) none).map D.int = ((Row t i).take c ++ [cI (Row t i) c + m] ++ (Row t i).drop (c + 1)).map .int := by
    rw [cut_to, cut_from, List.map_append, List.map_append]; rfl
  have hrl : ((Row t i).take c ++ [cI (Row t i) c + m] ++ (Row t i).drop (c + 1)).length = w := by
    rw [List.length_append, List.length_append, List.length_take, List.length_drop, List.length_singleton]; omega
  have e7 : ∀ r : List Int, (cutL t none (some (i : Int))).map rD ++ [rD r] ++ (cutL t (some ((i + 1 : Nat) : Int)) none).map rD = (t.take i ++ [r] ++ t.drop (i + 1)).map rD := fun r => by
    rw [cut_to, cut_from, List.map_append, List.map_append]; rfl
  have fin := k _ C5 (put_wf W hi hrl) hD5
  unfold tbD at fin
  rw [← e7] at fin
  have hrD : ∀ r, rD r = .tup (r.map .int) := fun _ => rfl
  rw [hrD, ← e6] at fin
  try simp_arith! [er, rD, cutD_map, ei, ec]
  refine ⟨by simp only [List.length_map, cut_to, List.length_take]; omega, by simp only [List.length_append, List.length_map, cut_to, cut_from, List.length_take, List.length_drop, List.length_singleton]; omega, by simp only [List.length_map, cut_to, List.length_take]; omega, by simp only [List.length_append, List.length_map, cut_to, cut_from, List.length_take, List.length_drop, List.length_singleton]; omega, C5, sub_refl _, ?_⟩
  exact fin
theorem way_drawn_ok (hd : Sp tb "_law_draw" 1 DrawR) (ho : Sp tb "_law_one_way" 4 OneWayR) (hp : Sp tb "_law_put" 2 PutR) (hn : 4 ≤ n) (hD : Deck a b C) (k : ∀ t w C', WF t w → Deck a b C' → P (tbD t) C') : denF ⟨Gm tb n, ex⟩ i_law_way_drawn [.ref a] C P := by
  refine ⟨rfl, ?_⟩
  simp_arith! [i_law_way_drawn]
  refine use_draw hd (by omega) hD (by decide) (by decide) fun x C1 _ _ hD1 _ => ?_
  try simp_arith! []
  refine use_draw hd (by omega) hD1 (by decide) (by decide) fun y C2 y0 y1 hD2 _ => ?_
  try simp_arith! []
  refine ho n hn _ _ _ _ ⟨a, b, x, rfl, hD2, fun t w C3 W hD3 => ?_⟩
  try simp_arith! []
  have ⟨z, mz, _, e⟩ := atI_in (xs := [D.int 0, D.int 0, D.int 1, D.int 2]) (i := y) y0 (by simp only [List.length_cons, List.length_nil]; omega)
  obtain ⟨m, rfl, m0, m1⟩ : ∃ m : Int, z = .int m ∧ 0 ≤ m ∧ m ≤ 2 := by
    simp only [List.mem_cons, List.not_mem_nil, or_false] at mz
    rcases mz with rfl | rfl | rfl | rfl <;> exact ⟨_, rfl, by decide, by decide⟩
  refine ⟨_, e, ?_⟩
  try simp_arith! [rangeD_map]
  refine ⟨by omega, by omega, ?_⟩
  refine for_invL (fun i : Nat => .int (i : Int)) (I := fun _ ρ C' => ∃ (t : List (List Int)) (x4 : Option Dv), ρ = [some (.dat (.ref a)), some (.dat (.int x)), some (.dat (.int y)), some (.dat (tbD t)), x4] ∧ WF t w ∧ Deck a b C') ⟨t, _, rfl, W, hD3⟩ (fun done j rest ρ C4 e ⟨t, x4, hρ, W, hD4⟩ nx knx => ?_) fun ρ C4 ⟨t, x4, hρ, W, hD4⟩ => ?_
  · subst hρ
    try simp_arith! []
    refine hp n (by omega) _ _ _ _ ⟨a, b, t, w, rfl, hD4, W, fun t C5 W hD5 => ?_⟩
    try simp_arith! []
    exact knx _ _ ⟨_, _, rfl, W, hD5⟩
  · subst hρ
    try simp_arith! []
    exact ⟨C4, sub_refl _, k _ _ _ W hD4⟩

def lD (r : List Int) : D := .lst (r.map .int)
theorem full_ok (hd : Sp tb "_law_draw" 1 DrawR) (hm : Sp tb "_law_number" 2 NumR) (hs : Sp tb "_law_slack" 2 NumR) (hn : 2 ≤ n) (hD : Deck a b C) (k : ∀ t w C', WF t w → Deck a b C' → P (tbD t) C') : denF ⟨Gm tb n, ex⟩ i_law_full [.ref a] C P := by
  refine ⟨rfl, ?_⟩
  try simp_arith! [i_law_full]
  refine use_draw hd (by omega) hD (by decide) (by decide) fun way C1 y0 y1 hD1 _ => ?_
  try simp_arith! []
  refine use_draw hd (by omega) hD1 (by decide) (by decide) fun wide C2 _ _ hD2 _ => ?_
  try simp_arith! []
  refine use_draw hd (by omega) hD2 (by decide) (by decide) fun u C3 u0 u1 hD3 _ => ?_
  try simp_arith! []
  refine use_draw hd (by omega) hD3 (by decide) (by decide) fun v C4 v0 v1 hD4 _ => ?_
  try simp_arith! []
  have pick : ∃ r c : Int, atI [D.tup [.int (1 + u), .int (1 + v)], D.tup [.int 12, .int 12]] (if wide = 5 then 1 else 0) = some (.tup [.int r, .int c]) ∧ 1 ≤ r ∧ r ≤ 12 ∧ 1 ≤ c ∧ c ≤ 12 := by
    split
    · exact ⟨12, 12, atI_1 _ _ _, by omega, by omega, by omega, by omega⟩
    · exact ⟨1 + u, 1 + v, atI_0 _ _, by omega, by omega, by omega, by omega⟩
  obtain ⟨r, c, ep, r0, r1, c0, c1⟩ := pick
  obtain ⟨R, rfl⟩ : ∃ j : Nat, r = (j : Int) := ⟨r.toNat, by omega⟩
  obtain ⟨w, rfl⟩ : ∃ j : Nat, c = (j : Int) := ⟨c.toNat, by omega⟩
  refine ⟨_, ep, ?_⟩
  try simp_arith! [Int.toNat_natCast]
  refine ⟨by omega, by omega, comp_all (α := Int) (fun C' => Deck a b C') (fun _ => True) .int (by rw [rangeD_len, sz]; omega) hD4 (fun d _ C5 hD5 K kK => ?_) fun ys C6 hl _ hD6 => ?_⟩
  · try simp_arith! []
    exact hm n hn _ _ _ _ ⟨a, b, way, rfl, y0, y1, hD5, fun x C7 hD7 => kK x C7 trivial hD7⟩
  rw [rangeD_len] at hl
  try simp_arith! []
  refine use_draw hd (by omega) hD6 (by decide) (by decide) fun s1 C7 _ _ hD7 _ => ?_
  try simp_arith! []
  refine use_draw hd (by omega) hD7 (by decide) (by decide) fun s2 C8 _ _ hD8 _ => ?_
  have eR : ((R : Int) - 1).toNat = R - 1 := by omega
  have eW : ((w : Int) - 1).toNat = w - 1 := by omega
  try simp_arith! [rangeD, eR]
  refine ⟨⟨by omega, by omega, by omega, by omega⟩, ?_⟩
  refine for_invL (fun i : Nat => .int (1 + (i : Int) * 1)) (I := fun done ρ C' => ∃ (g : List (List Int)) (x5 x8 x9 x10 : Option Dv), ρ = [some (.dat (.ref a)), some (.dat (.int way)), some (.dat (.bl (decide (wide = 5)))), some (.own (g.map lD)), some (.dat (.tup [.int (1 + s1), .int (1 + s2)])), x5, some (.dat (.int (R : Int))), some (.dat (.int (w : Int))), x8, x9, x10] ∧ g.length = done.length + 1 ∧ (∀ q ∈ g, q.length = w) ∧ Deck a b C')
    ⟨[ys], _, _, _, _, rfl, rfl, fun q hq => by rw [List.mem_singleton.mp hq]; exact hl, hD8⟩ (fun done i rest ρ C9 e ⟨g, x5, x8, x9, x10, hρ, hgl, hg, hD9⟩ nx knx => ?_) fun ρ C9 ⟨g, x5, x8, x9, x10, hρ, hgl, hg, hD9⟩ => ?_
  · subst hρ
    have hdl : done.length < 12 := by
      have : (List.range (R - 1)).length = done.length + (rest.length + 1) := by rw [e, List.length_append, List.length_cons]
      rw [List.length_range] at this
      omega
    have hgne : g ≠ [] := by rintro rfl; simp at hgl
    obtain ⟨lr, hlr, _, elr⟩ := atI_end hgne
    have hlrl := hg lr hlr
    have elr2 : atI (g.map lD) (-1) = some (.lst (lr.map .int)) := by rw [atI_map, elr]; rfl
    try simp_arith! []
    refine hm n hn _ _ _ _ ⟨a, b, way, rfl, y0, y1, hD9, fun x C10 hD10 => ?_⟩
    try simp_arith! [rangeD, eW]
    refine ⟨⟨by omega, by omega, by omega, by omega⟩, ?_⟩
    refine for_invL (fun i : Nat => .int (1 + (i : Int) * 1)) (I := fun done2 ρ C' => ∃ (q : List Int) (x9 x10 : Option Dv), ρ = [some (.dat (.ref a)), some (.dat (.int way)), some (.dat (.bl (decide (wide = 5)))), some (.own (g.map lD)), some (.dat (.tup [.int (1 + s1), .int (1 + s2)])), some (.dat (.int (1 + (i : Int) * 1))), some (.dat (.int (R : Int))), some (.dat (.int (w : Int))), some (.own (q.map .int)), x9, x10] ∧ q.length = done2.length + 1 ∧ Deck a b C')
      ⟨[x], _, _, rfl, rfl, hD10⟩ (fun done2 j rest2 ρ C11 e2 ⟨q, x9, x10, hρ, hql, hD11⟩ nx2 knx2 => ?_) fun ρ C11 ⟨q, x9, x10, hρ, hql, hD11⟩ => ?_
    · subst hρ
      have hj : j < w - 1 := by
        have : j ∈ List.range (w - 1) := by rw [e2]; simp
        exact List.mem_range.mp this
      have hdl2 : done2.length < 12 := by
        have : (List.range (w - 1)).length = done2.length + (rest2.length + 1) := by rw [e2, List.length_append, List.length_cons]
        rw [List.length_range] at this
        omega
      have hqne : q ≠ [] := by rintro rfl; simp at hql
      obtain ⟨lq, _, _, elq⟩ := atI_end hqne
      have elq2 : atI (q.map D.int) (-1) = some (.int lq) := by rw [atI_map, elq]; rfl
      have ej : 1 + (j : Int) * 1 = ((j + 1 : Nat) : Int) := by omega
      have ej2 : ((j + 1 : Nat) : Int) - 1 = (j : Int) := by omega
      have hqs : (q.map D.int).length < 16777216 := by rw [List.length_map]; omega
      have fin : ∀ (y : Int) (C' : CM) (x9 x10 : Option Dv), Deck a b C' → nx2 [some (.dat (.ref a)), some (.dat (.int way)), some (.dat (.bl (decide (wide = 5)))), some (.own (g.map lD)), some (.dat (.tup [.int (1 + s1), .int (1 + s2)])), some (.dat (.int (1 + (i : Int) * 1))), some (.dat (.int (R : Int))), some (.dat (.int (w : Int))), some (.own (q.map .int ++ [.int y])), x9, x10] C' := fun y C' x9 x10 hD' =>
        knx2 _ _ ⟨q ++ [y], x9, x10, by rw [List.map_append]; rfl, by rw [List.length_append, List.length_append, hql]; rfl, hD'⟩
      try simp_arith! [ej]
      refine hs n hn _ _ _ _ ⟨a, b, way, rfl, y0, y1, hD11, fun less C12 hD12 => ?_⟩
      try simp_arith! [ej, ej2, elr2, elq2, at_cell (show j + 1 < lr.length by omega), at_cell (show j < lr.length by omega)]
      have last : ∀ (less : Int) (C' : CM) (x10 : Option Dv), Deck a b C' → (q.map D.int).length < 16777216 ∧ nx2 [some (.dat (.ref a)), some (.dat (.int way)), some (.dat (.bl (decide (wide = 5)))), some (.own (g.map lD)), some (.dat (.tup [.int (1 + s1), .int (1 + s2)])), some (.dat (.int (1 + (i : Int) * 1))), some (.dat (.int (R : Int))), some (.dat (.int (w : Int))), some (.own (q.map .int ++ [.int (lq + cI lr (j + 1) - cI lr j - less)])), some (.dat (.int ((j + 1 : Nat) : Int))), x10] C' := fun less C' x10 hD' => ⟨hqs, fin _ _ _ _ hD'⟩
      split
      · split
        · refine use_draw hd (by omega) hD12 (by decide) (by decide) fun p1 C13 _ _ hD13 _ => ?_
          try simp_arith! []
          refine ⟨B8.cmul_r _ _ (by decide), use_draw hd (by omega) hD13 (by decide) (by decide) fun p2 C14 _ _ hD14 _ => ?_⟩
          try simp_arith! [ej, ej2, elr2, elq2, at_cell (show j + 1 < lr.length by omega), at_cell (show j < lr.length by omega)]
          exact last _ _ _ hD14
        · exact last _ _ _ hD12
      · exact last _ _ _ hD12
    · subst hρ
      rw [List.length_range] at hql
      try simp_arith! []
      refine ⟨by rw [List.length_map]; omega, knx _ _ ⟨g ++ [q], _, _, _, _, by rw [List.map_append]; rfl, by rw [List.length_append, List.length_append, hgl]; rfl, fun z hz => ?_, hD11⟩⟩
      rcases List.mem_append.mp hz with h | h
      · exact hg z h
      · rw [List.mem_singleton.mp h, hql]
        omega
  · subst hρ
    try simp_arith! []
    rw [List.length_range] at hgl
    refine comp_mapL lD rD (by rw [sz]; omega) (fun q _ K kK => ?_) ?_
    · try simp_arith! [lD]
      exact kK
    · try simp_arith! []
      exact ⟨C9, sub_refl _, k g w _ ⟨by omega, by omega, by omega, by omega, hg⟩ hD9⟩

def RightR := TabR fun _ _ => .bl true
theorem law_ok (hd : Sp tb "_law_draw" 1 DrawR) (hk : Sp tb "_law_deck" 1 B8.DeckR) (hb : Sp tb "bend_of" 3 BendOfR) (hw : Sp tb "_law_way_drawn" 5 FullR) (hr : Sp tb "_law_right" 5 RightR) (hn : 5 ≤ n)
    {ns : List Int} (hl : ns.length ≤ 63) (kk : ∀ C', P (.bl true) C') : denF ⟨Gm tb n, ex⟩ ilaw [.scr (ns.map .int)] C P := by
  refine ⟨rfl, ?_⟩
  try simp_arith! [ilaw]
  refine hk n (by omega) _ _ _ _ ⟨ns, rfl, hl, fun a b C0 hD0 => ?_⟩
  try simp_arith! []
  refine use_draw hd (by omega) hD0 (by decide) (by decide) fun v C1 _ _ hD1 _ => ?_
  try simp_arith! []
  have W1 : WF [[v]] 1 := ⟨by simp, by simp, by omega, by omega, fun r h => by rw [List.mem_singleton.mp h]; rfl⟩
  refine hb n (by omega) _ _ _ _ ⟨[[v]], 1, rfl, W1, ?_⟩
  have eb : D.str (Str.ofString (dstr (one 1 [[v]]) (oth 1 [[v]]))) = .str (Str.ofString "both") := rfl
  have f1 : (D.str (Str.ofString "both")).Cmp := (str_facts true true).1
  have f2 : (D.str (Str.ofString "both")).eqv (.str (Str.ofString "both")) = true := (str_facts true true).2.1
  simp_arith! [eb, f1, f2, List.length_map]
  generalize hm : (if (1 : Int) < (if ((ns.length : Nat) : Int) < 4 then ((ns.length : Nat) : Int) else 4) then (if ((ns.length : Nat) : Int) < 4 then ((ns.length : Nat) : Int) else 4) else 1) = m
  have m0 : 1 ≤ m ∧ m ≤ 4 := by subst hm; split <;> split <;> omega
  try simp_arith! [rangeD_map]
  refine ⟨by omega, by omega, ?_⟩
  refine for_invL (fun i : Nat => .int (i : Int)) (I := fun _ ρ C' => ∃ (x2 : Option Dv), ρ = [some (.dat (.scr (ns.map .int))), some (.dat (.ref a)), x2] ∧ Deck a b C') ⟨_, rfl, hD1⟩ (fun done j rest ρ C2 e ⟨x2, hρ, hD2⟩ nx knx => ?_) fun ρ C2 ⟨x2, hρ, hD2⟩ => ?_
  · subst hρ
    try simp_arith! []
    refine hw n (by omega) _ _ _ _ ⟨a, b, rfl, hD2, fun t w C3 W hD3 => ?_⟩
    try simp_arith! []
    refine hr n (by omega) _ _ _ _ ⟨t, w, rfl, W, ?_⟩
    try simp_arith! []
    exact knx _ _ ⟨_, rfl, hD3⟩
  · subst hρ
    try simp_arith! []
    exact ⟨C2, sub_refl _, kk _⟩
end
theorem law_true (ns : List Int) (hl : ns.length ≤ 63) : Gm tabD 10 "law" [.scr (ns.map .int)] (fun _ => none) (fun d _ => d = .bl true) (fun _ _ => False) := by
  have hd : Sp tabD "_law_draw" 1 DrawR := B8.sp_draw rfl
  have hk : Sp tabD "_law_deck" 1 B8.DeckR := B8.sp_deck rfl
  have hm : Sp tabD "_law_number" 2 NumR := sp_mk rfl fun n hn ds C P ex ⟨a, b, v, e, v0, v1, hD, k⟩ => by subst e; exact number_ok hd hn v0 v1 hD k
  have hs : Sp tabD "_law_slack" 2 NumR := sp_mk rfl fun n hn ds C P ex ⟨a, b, v, e, v0, v1, hD, k⟩ => by subst e; exact slack_ok hd hn v0 v1 hD k
  have hf : Sp tabD "_law_full" 3 FullR := sp_mk rfl fun n hn ds C P ex ⟨a, b, e, hD, k⟩ => by subst e; exact full_ok hd hm hs hn hD k
  have hp : Sp tabD "_law_put" 2 PutR := sp_mk rfl fun n hn ds C P ex ⟨a, b, t, w, e, hD, W, k⟩ => by subst e; exact put_ok hd (by omega) W hD k
  have ho : Sp tabD "_law_one_way" 4 OneWayR := sp_mk rfl fun n hn ds C P ex ⟨a, b, v, e, hD, k⟩ => by subst e; exact one_way_ok hf hn hD k
  have hw : Sp tabD "_law_way_drawn" 5 FullR := sp_mk rfl fun n hn ds C P ex ⟨a, b, e, hD, k⟩ => by subst e; exact way_drawn_ok hd ho hp hn hD k
  have h1 : Sp tabD "slack_at" 1 SlackAtR := sp_mk rfl fun n hn ds C P ex ⟨t, w, i, j, e, W, hi, hj, k⟩ => by subst e; exact slack_at_ok W hi hj k
  have h2 : Sp tabD "slacks" 2 SlacksR := sp_mk rfl fun n hn ds C P ex ⟨t, w, e, W, k⟩ => by subst e; exact slacks_ok h1 hn W k
  have h3 : Sp tabD "stretch_in" 1 StrR := sp_mk rfl fun n hn ds C P ex ⟨r, e, l1, l2, k⟩ => by subst e; exact stretch_ok l1 l2 k
  have h4 : Sp tabD "is_stepped" 2 SteppedR := sp_mk rfl fun n hn ds C P ex ⟨t, w, e, W, k⟩ => by subst e; exact stepped_ok h3 hn W k
  have h5 : Sp tabD "are_good" 1 GoodR := sp_mk rfl fun n hn ds C P ex ⟨r, e, l2, k⟩ => by subst e; exact are_good_ok l2 k
  have h6 : Sp tabD "bends" 3 BendsR := sp_mk rfl fun n hn ds C P ex ⟨t, w, e, W, k⟩ => by subst e; exact bends_ok h4 h2 h5 hn W k
  have h7 : Sp tabD "bend_of" 3 BendOfR := sp_mk rfl fun n hn ds C P ex ⟨t, w, e, W, k⟩ => by subst e; exact bend_of_ok h2 hn W k
  have h8 : Sp tabD "_law_bend_due" 1 DueR := sp_mk rfl fun n hn ds C P ex ⟨t, w, e, W, k⟩ => by subst e; exact due_ok W k
  have h9 : Sp tabD "_law_told" 4 ToldR := sp_mk rfl fun n hn ds C P ex ⟨t, w, v, e, W, k⟩ => by subst e; exact told_ok h6 hn W k
  have hr : Sp tabD "_law_right" 5 RightR := sp_mk rfl fun n hn ds C P ex ⟨t, w, e, W, k⟩ => by subst e; exact right_ok h7 h8 h9 hn W k
  have hl' : Sp tabD "law" 6 fun ds C P => ∃ ns : List Int, ds = [.scr (ns.map .int)] ∧ ns.length ≤ 63 ∧ ∀ C', P (.bl true) C' := sp_mk rfl fun n hn ds C P ex ⟨ns, e, hl, k⟩ => by subst e; exact law_ok hd hk h7 hw hr hn hl k
  exact hl' 10 (by omega) _ _ _ _ ⟨ns, rfl, hl, fun _ => rfl⟩
end M61.k69

set_option Elab.async false
set_option linter.all false
set_option autoImplicit false
set_option maxRecDepth 100000
/-! P8s: the same, thing by thing. -/
namespace M61.B8
open PySem PySem.Spec PyProof.Rows L2
local macro_rules
  | `(tactic| simp_arith! [$ls,*] $[$loc:location]?) => `(tactic| try simp only [wipeR_cons, wipeR_nil, eq_self, denSs, denS, denE, denT, denEs, denO, denC, denL, denI, bindT_nm, bindT_tp, bindT_tl, bindTs_nil, bindTs_cons, varD_0, varD_s, varM_own0, varM_dat0, varM_s, varO_0, varO_s, varL_own0, varL_ref0, varL_s, sz, cp1, cp2, cp3, cp4, cp5, cp6, cp7, cp8, cp9, cp10, cp11, cp12, cp15, cp18, add_i, add_t, add_l, add_s, add_b, sub_b, sub_i, mul_i, mul_t, mul_l, fdiv_i, mod_i, pow_i, shl_i, eq_r, ne_r, inn_t, nin_t, inn_l, nin_l, lt_r, lt_tt, le_r, gt_r, ge_r, is_n, isn_n, is_b, isn_b, isNon_n, isNon_i, isNon_t, isNon_l, isNon_b, isNon_s, tru_n, tru_b, tru_i, tru_t, tru_l, ix_t, ix_l, ix_c, ix_r, cellAt_l, cellL_l, lstD_l, lstD_r, sqD_t, sqD_l, sl_t, sl_l, sl_c, sl_r, rev_t, rev_l, len_t, len_l, len_c, len_r, tup_t, tup_l, tup_r, sum_t, sum_l, sum_r, min_t, min_l, max_t, max_l, min_2, max_2, min_3, repr_r, str_ri, abs_i, int_i, int_b, all_l, any_l, ty_bb, ty_bi, ty_bn, ty_bt, ty_ss, ty_sn, ty_si, ty_sb, ty_ii, ty_ib, ty_in, ty_it, ty_tt, ty_tn, ty_ti, ty_tb, ty_ll, ty_lt, ty_is, ty_il, ty_bs, ty_blst, ty_st, ty_sl, ty_ts, ty_tl, ty_ln, ty_li, ty_lb, ty_ls, intsOf_map, boolsOf_map, pair_Cmp, int_Cmp, bl_Cmp, non_Cmp, ints_Cmp, intst_Cmp, eqv_int, eqv_bl, eqv_ints, eqv_intst, List.map_cons, List.map_nil, List.replicate_succ, List.replicate_zero, List.cons_append, List.nil_append, List.set_cons_zero, List.set_cons_succ, List.length_cons, List.length_nil, List.getElem?_cons_zero, List.getElem?_cons_succ, List.eraseIdx_cons_zero, Nat.reduceSub, Nat.reduceAdd, Nat.reduceLT, Nat.reduceLeDiff, Nat.reducePow, Nat.reduceEqDiff, Nat.reduceMul, Int.reducePow, Int.reduceToNat, Int.reduceMul, Int.reduceAdd, Int.reduceSub, Int.reduceNeg, Int.reduceLT, Int.reduceLE, Int.reduceEq, Int.reduceBEq, Int.reduceBNe, zero_add', not_true_eq_false, not_false_eq_true, Bool.true_eq_false, false_and, and_false, true_and, and_true, exists_eq_left', exists_and_left, Option.some.injEq, Cell.lst.injEq, Cell.dct.injEq, if_pos_true, reduceIte, Bool.false_eq_true, decide_true, decide_false, Bool.not_true, Bool.not_false, Bool.not_eq_true', Bool.and_true, Bool.true_and, decide_eq_true_eq, decide_eq_false_iff_not, ite_self, List.isEmpty_cons, List.isEmpty_nil, $ls,*] $[$loc]?)
def i_law_is_same : Def := ⟨2, 4,
  (.cons (.ife (.val (.isi (.var 1) .tuple)) (.cons (.ife (.or (.not (.val (.isi (.var 0) .tuple))) (.cmp .ne (.blt .len (.cons (.var 0) .nil)) (.blt .len (.cons (.var 1) .nil)))) (.cons (.ret (.bl false))
  .nil) .nil)
  (.cons (.ret (.ceq (.frz (.comp [2, 3] (.int 1) (.tp (.cons (.nm 2) (.cons (.nm 3) .nil))) (.zip (.var 0) (.var 1)) (.yes (.not (.val (.call "_law_is_same" (.cons (.var 2) (.cons (.var 3) .nil))))))))))
  .nil)) .nil)
  (.cons (.ife (.cmp .is (.var 1) .non) (.cons (.ret (.cmp .is (.var 0) .non))
  .nil) .nil)
  (.cons (.ife (.val (.isi (.var 1) .str)) (.cons (.ret (.and (.isi (.var 0) .str) (.cmp .eq (.var 0) (.var 1))))
  .nil) .nil)
  (.cons (.ret (.and (.isi (.var 0) .int) (.and (.not (.isi (.var 0) .bool)) (.cmp .eq (.var 0) (.var 1)))))
  .nil))))⟩
/-! ### more for comprehensions and loops -/
theorem range1_map (m : Nat) : rangeD 1 1 m = (List.range m).map fun i => .int ((i + 1 : Nat) : Int) := by
  unfold rangeD
  refine List.map_congr_left fun i _ => ?_
  congr 1; omega
inductive All2 {α β : Type} (R : α → β → Prop) : List α → List β → Prop
  | nil : All2 R [] []
  | cons {x : α} {y : β} {xs : List α} {ys : List β} : R x y → All2 R xs ys → All2 R (x :: xs) (y :: ys)
/-- each element of xs gives one that is told by R -/
theorem comp_mapE {α β : Type} (g : α → D) (f : β → D) (R : α → β → Prop) {turn : D → CM → (Option D → CM → Prop) → Prop} {xs : List α} {C : CM} {P : List D → CM → Prop} (hl : xs.length ≤ sizeLine)
    (step : ∀ x ∈ xs, ∀ K : Option D → CM → Prop, (∀ y, R x y → K (some (f y)) C) → turn (g x) C K) (hend : ∀ ys : List β, (All2 R xs ys) → P (ys.map f) C) : compGo turn (xs.map g) [] C P := by
  have key : ∀ (xs : List α) (acc : List β), acc.length + xs.length ≤ sizeLine → (∀ x ∈ xs, ∀ K : Option D → CM → Prop, (∀ y, R x y → K (some (f y)) C) → turn (g x) C K) → (∀ ys : List β, (All2 R xs ys) → P ((acc ++ ys).map f) C) → compGo turn (xs.map g) (acc.map f) C P := by
    intro xs
    induction xs with
    | nil => intro acc _ _ h; have := h [] .nil; rw [List.append_nil] at this; exact this
    | cons x xs ih =>
      intro acc hl step hend
      rw [List.length_cons] at hl
      refine step x List.mem_cons_self _ fun y hy => ⟨by rw [List.length_map]; omega, ?_⟩
      have e : acc.map f ++ [f y] = (acc ++ [y]).map f := by rw [List.map_append]; rfl
      rw [e]
      refine ih (acc ++ [y]) (by rw [List.length_append, List.length_singleton]; omega) (fun z h => step z (List.mem_cons_of_mem _ h)) fun ys h => ?_
      rw [List.append_assoc]
      exact hend (y :: ys) (.cons hy h)
  exact key xs [] (by rw [List.length_nil]; omega) step hend
theorem All2.len {α β : Type} {R : α → β → Prop} {xs : List α} {ys : List β} (h : All2 R xs ys) : ys.length = xs.length := by
  induction h with
  | nil => rfl
  | cons _ _ ih => rw [List.length_cons, List.length_cons, ih]
theorem All2.of {α β : Type} {R : α → β → Prop} {xs : List α} {ys : List β} (h : All2 R xs ys) : ∀ y ∈ ys, ∃ x ∈ xs, R x y := by
  induction h with
  | nil => intro y hy; exact absurd hy (by simp)
  | cons h _ ih =>
    intro y hy
    rcases List.mem_cons.mp hy with rfl | q
    · exact ⟨_, List.mem_cons_self, h⟩
    · obtain ⟨x, hx, r⟩ := ih y q
      exact ⟨x, List.mem_cons_of_mem _ hx, r⟩
theorem map_rel {α β γ : Type} {f : α → γ} {g : β → γ} {xs : List α} {ys : List β} (h : All2 (fun x y => g y = f x) xs ys) : ys.map g = xs.map f := by
  induction h with
  | nil => rfl
  | cons h _ ih => rw [List.map_cons, List.map_cons, h, ih]
mutual
/-- trees of tuples, None, whole numbers and texts -/
def pq : D → Bool
  | .tup xs => decide (xs.length ≤ 1000000) && pqs xs
  | .int _ => true
  | .non => true
  | .str s => D.can (.str s)
  | .bl _ => false
  | .lst _ => false
  | .ref _ => false
  | .scr _ => false
  | .dic => false
def pqs : List D → Bool
  | [] => true
  | x :: xs => pq x && pqs xs
end
theorem pqs_mem : ∀ {xs : List D}, pqs xs = true → ∀ x ∈ xs, pq x = true
  | [], _, _, h => absurd h (by simp)
  | x :: xs, h, y, hy => by
    obtain ⟨h1, h2⟩ := Bool.and_eq_true_iff.mp (show (pq x && pqs xs) = true from h)
    rcases List.mem_cons.mp hy with rfl | q
    · exact h1
    · exact pqs_mem h2 y q
theorem pqs_of : ∀ {xs : List D}, (∀ x ∈ xs, pq x = true) → pqs xs = true
  | [], _ => rfl
  | x :: xs, h => by
    show (pq x && pqs xs) = true
    rw [h x List.mem_cons_self, pqs_of fun y hy => h y (List.mem_cons_of_mem _ hy)]; rfl
theorem pq_tup {xs : List D} (hl : xs.length ≤ 1000000) (h : ∀ x ∈ xs, pq x = true) : pq (.tup xs) = true := by
  show (decide (xs.length ≤ 1000000) && pqs xs) = true
  rw [decide_eq_true hl, pqs_of h]; rfl
theorem deps_mem : ∀ {xs : List D} {k : Nat}, D.deps xs ≤ k → ∀ x ∈ xs, x.dep ≤ k
  | [], _, _, _, h => absurd h (by simp)
  | x :: xs, k, h, y, hy => by
    have h : max x.dep (D.deps xs) ≤ k := h
    rcases List.mem_cons.mp hy with rfl | q
    · omega
    · exact deps_mem (show D.deps xs ≤ k by omega) y q
theorem deps_of : ∀ {xs : List D} {k : Nat}, (∀ x ∈ xs, x.dep ≤ k) → D.deps xs ≤ k
  | [], k, _ => Nat.zero_le k
  | x :: xs, k, h => by
    show max x.dep (D.deps xs) ≤ k
    have h1 := h x List.mem_cons_self
    have h2 := deps_of (xs := xs) (k := k) fun y hy => h y (List.mem_cons_of_mem _ hy)
    omega
mutual
theorem pq_pure : ∀ d : D, pq d = true → d.pure = true ∧ d.can = true
  | .tup xs, h => pqs_pure xs (Bool.and_eq_true_iff.mp (show (decide (xs.length ≤ 1000000) && pqs xs) = true from h)).2
  | .int _, _ => ⟨rfl, rfl⟩
  | .non, _ => ⟨rfl, rfl⟩
  | .str s, h => ⟨rfl, h⟩
  | .bl _, h => by cases h
  | .lst _, h => by cases h
  | .ref _, h => by cases h
  | .scr _, h => by cases h
  | .dic, h => by cases h
theorem pqs_pure : ∀ xs : List D, pqs xs = true → D.pures xs = true ∧ D.cans xs = true
  | [], _ => ⟨rfl, rfl⟩
  | x :: xs, h => by
    obtain ⟨h1, h2⟩ := Bool.and_eq_true_iff.mp (show (pq x && pqs xs) = true from h)
    obtain ⟨a1, a2⟩ := pq_pure x h1
    obtain ⟨b1, b2⟩ := pqs_pure xs h2
    exact ⟨by show (D.pure x && D.pures xs) = true; rw [a1, b1]; rfl, by show (D.can x && D.cans xs) = true; rw [a2, b2]; rfl⟩
end
theorem pq_Cmp {d : D} (h : pq d = true) (k : d.dep ≤ 64) : d.Cmp := cmp_of (pq_pure d h).1 k (pq_pure d h).2
mutual
theorem eqv_refl : ∀ d : D, pq d = true → PyData.eqv d.py d.py = true
  | .tup xs, h => eqvs_refl xs (Bool.and_eq_true_iff.mp (show (decide (xs.length ≤ 1000000) && pqs xs) = true from h)).2
  | .int i, _ => by show (i == i) = true; exact beq_self_eq_true i
  | .non, _ => rfl
  | .str s, _ => by show (s == s) = true; exact beq_self_eq_true s
  | .bl _, h => by cases h
  | .lst _, h => by cases h
  | .ref _, h => by cases h
  | .scr _, h => by cases h
  | .dic, h => by cases h
theorem eqvs_refl : ∀ xs : List D, pqs xs = true → PyData.eqvAll (D.pys xs) (D.pys xs) = true
  | [], _ => rfl
  | x :: xs, h => by
    obtain ⟨h1, h2⟩ := Bool.and_eq_true_iff.mp (show (pq x && pqs xs) = true from h)
    show (PyData.eqv x.py x.py && PyData.eqvAll (D.pys xs) (D.pys xs)) = true
    rw [eqv_refl x h1, eqvs_refl xs h2]; rfl
end
theorem eqv_self {d : D} (h : pq d = true) : d.eqv d = true := eqv_refl d h
mutual
/-- what the law's own look tells -/
def sm : D → D → Bool
  | f, .tup es => match f with
    | .tup fs => decide (fs.length = es.length) && smL fs es
    | _ => false
  | f, .non => f.isNon
  | f, .str s => match f with
    | .str s' => (D.str s').eqv (.str s)
    | _ => false
  | f, .int i => match f with
    | .int j => decide (j = i)
    | _ => false
  | _, .bl _ => false
  | _, .lst _ => false
  | _, .ref _ => false
  | _, .scr _ => false
  | _, .dic => false
def smL : List D → List D → Bool
  | f :: fs, e :: es => sm f e && smL fs es
  | [], _ => true
  | _ :: _, [] => true
end
mutual
theorem sm_refl : ∀ d : D, pq d = true → sm d d = true
  | .tup xs, h => by
    show (decide (xs.length = xs.length) && smL xs xs) = true
    rw [smL_refl xs (Bool.and_eq_true_iff.mp (show (decide (xs.length ≤ 1000000) && pqs xs) = true from h)).2, decide_eq_true rfl]; rfl
  | .int i, _ => by show decide (i = i) = true; exact decide_eq_true rfl
  | .non, _ => rfl
  | .str s, h => eqv_refl (.str s) h
  | .bl _, h => by cases h
  | .lst _, h => by cases h
  | .ref _, h => by cases h
  | .scr _, h => by cases h
  | .dic, h => by cases h
theorem smL_refl : ∀ xs : List D, pqs xs = true → smL xs xs = true
  | [], _ => rfl
  | x :: xs, h => by
    obtain ⟨h1, h2⟩ := Bool.and_eq_true_iff.mp (show (pq x && pqs xs) = true from h)
    show (sm x x && smL xs xs) = true
    rw [sm_refl x h1, smL_refl xs h2]; rfl
end
theorem smL_zip : ∀ fs es : List D, smL fs es = ((fs.zip es).filter fun p => !sm p.1 p.2).isEmpty
  | [], es => by show true = _; rw [List.zip_nil_left]; rfl
  | f :: fs, [] => rfl
  | f :: fs, e :: es => by
    show (sm f e && smL fs es) = _
    rw [List.zip_cons_cons, List.filter_cons, smL_zip fs es]
    cases sm f e <;> rfl
theorem sm_non (f : D) : sm f .non = f.isNon := by cases f <;> rfl
theorem ty_is (x : Str) : isTy .int (.str x) = some false := rfl
theorem ty_st (xs : List D) : isTy .str (.tup xs) = some false := rfl
theorem ty_ts (x : Str) : isTy .tuple (.str x) = some false := rfl
section
variable {tb : List (String × Def)} {n : Nat} {C : CM} {P : D → CM → Prop} {ex : Exc → CM → Prop}
def SameH (tb : List (String × Def)) (k : Nat) : Prop := ∀ n, n ≥ k → ∀ f d C P ex, d.dep + 1 ≤ k → d.dep ≤ 60 → pq f = true → pq d = true → P (.bl (sm f d)) C → Gm tb n "_law_is_same" [f, d] C P ex
theorem is_same_ok {k : Nat} (hs : SameH tb k) (hn : k ≤ n) {f d : D} (hf : pq f = true) (hp : pq d = true) (hd : d.dep ≤ k) (h60 : d.dep ≤ 60) (kk : P (.bl (sm f d)) C) : denF ⟨Gm tb n, ex⟩ i_law_is_same [f, d] C P := by
  refine ⟨rfl, ?_⟩
  cases d with
  | tup es =>
    obtain ⟨g1, g2⟩ := Bool.and_eq_true_iff.mp (show (decide (es.length ≤ 1000000) && pqs es) = true from hp)
    have g1 := of_decide_eq_true g1
    have hd : D.deps es + 1 ≤ k := hd
    have h60 : D.deps es + 1 ≤ 60 := h60
    cases f with
    | tup fs =>
      obtain ⟨f1, f2⟩ := Bool.and_eq_true_iff.mp (show (decide (fs.length ≤ 1000000) && pqs fs) = true from hf)
      have f1 := of_decide_eq_true f1
      have kk : P (.bl (decide (fs.length = es.length) && smL fs es)) C := kk
      try simp_arith! [i_law_is_same]
      by_cases hl : fs.length = es.length
      · have hl2 : ((fs.length : Nat) : Int) = ((es.length : Nat) : Int) := by omega
        rw [decide_eq_true hl, Bool.true_and, smL_zip] at kk
        try simp_arith! [hl2, decide_true]
        have ez : zipD fs es = (fs.zip es).map fun p => .tup [p.1, p.2] := by
          have := zipD_map (fun d : D => d) (fun d : D => d) fs es
          rw [List.map_id', List.map_id'] at this
          exact this
        rw [ez]
        refine comp_filterL (fun p : D × D => !sm p.1 p.2) (fun p => .tup [p.1, p.2]) (fun _ => .int 1) (by rw [List.length_zip, sz]; omega) (fun p hp K kK => ?_) ?_
        · have hm := List.of_mem_zip hp
          try simp_arith! []
          refine hs n hn _ _ _ _ _ ?_ ?_ (pqs_mem f2 _ hm.1) (pqs_mem g2 _ hm.2) ?_
          · have := deps_mem (Nat.le_refl (D.deps es)) _ hm.2; omega
          · have := deps_mem (Nat.le_refl (D.deps es)) _ hm.2; omega
          · cases hq : sm p.1 p.2 <;> (rw [hq] at kK; try simp_arith! [] at kK ⊢; exact kK)
        · have ec : (((fs.zip es).filter fun p => !sm p.1 p.2).map fun _ => D.int 1) = (((fs.zip es).filter fun p => !sm p.1 p.2).map fun _ => (1 : Int)).map .int := by rw [List.map_map]; rfl
          rw [ec]
          have ei : ((((fs.zip es).filter fun p => !sm p.1 p.2).map fun _ => (1 : Int)).map D.int).isEmpty = ((fs.zip es).filter fun p => !sm p.1 p.2).isEmpty := by
            cases (fs.zip es).filter fun p => !sm p.1 p.2 <;> rfl
          try simp_arith! [ei]
          exact ⟨C, sub_refl _, kk⟩
      · have hl2 : ¬ ((fs.length : Nat) : Int) = ((es.length : Nat) : Int) := by omega
        rw [decide_eq_false hl, Bool.false_and] at kk
        try simp_arith! [hl2, decide_false]
        exact ⟨C, sub_refl _, kk⟩
    | int i => (try simp_arith! [i_law_is_same]); exact ⟨C, sub_refl _, kk⟩
    | non => (try simp_arith! [i_law_is_same]); exact ⟨C, sub_refl _, kk⟩
    | str s => (try simp_arith! [i_law_is_same, ty_ts]); exact ⟨C, sub_refl _, kk⟩
    | bl _ => cases hf
    | lst _ => cases hf
    | ref _ => cases hf
    | scr _ => cases hf
    | dic => cases hf
  | int i =>
    cases f with
    | int j => (try simp_arith! [i_law_is_same]); exact ⟨C, sub_refl _, kk⟩
    | tup fs => (try simp_arith! [i_law_is_same]); exact ⟨C, sub_refl _, kk⟩
    | non => (try simp_arith! [i_law_is_same]); exact ⟨C, sub_refl _, kk⟩
    | str s => (try simp_arith! [i_law_is_same, ty_is]); exact ⟨C, sub_refl _, kk⟩
    | bl _ => cases hf
    | lst _ => cases hf
    | ref _ => cases hf
    | scr _ => cases hf
    | dic => cases hf
  | non =>
    rw [sm_non] at kk
    try simp_arith! [i_law_is_same]
    exact ⟨C, sub_refl _, kk⟩
  | str s =>
    cases f with
    | str s' => (try simp_arith! [i_law_is_same, ty_ts]); exact ⟨pq_Cmp hf (Nat.zero_le _), pq_Cmp hp (Nat.zero_le _), C, sub_refl _, kk⟩
    | int j => (try simp_arith! [i_law_is_same, ty_ts]); exact ⟨C, sub_refl _, kk⟩
    | tup fs => (try simp_arith! [i_law_is_same, ty_ts, ty_st]); exact ⟨C, sub_refl _, kk⟩
    | non => (try simp_arith! [i_law_is_same, ty_ts]); exact ⟨C, sub_refl _, kk⟩
    | bl _ => cases hf
    | lst _ => cases hf
    | ref _ => cases hf
    | scr _ => cases hf
    | dic => cases hf
  | bl _ => cases hp
  | lst _ => cases hp
  | ref _ => cases hp
  | scr _ => cases hp
  | dic => cases hp
theorem same_all (h : tb.lookup "_law_is_same" = some i_law_is_same) : ∀ k, SameH tb k
  | 0 => fun n _ f d C P ex h0 => by omega
  | k + 1 => fun n hn f d C P ex h0 h60 hf hp kk => by
    obtain ⟨m, rfl⟩ : ∃ m, n = m + 1 := ⟨n - 1, by omega⟩
    exact ⟨i_law_is_same, h, is_same_ok (same_all h k) (by omega) hf hp (by omega) h60 kk⟩
/-- the same thing twice -/
theorem same_self {k : Nat} (hs : SameH tb k) (hn : k ≤ n) {d : D} (hp : pq d = true) (hd : d.dep + 1 ≤ k) (h60 : d.dep ≤ 60) (kk : P (.bl true) C) : Gm tb n "_law_is_same" [d, d] C P ex :=
  hs n hn d d C P ex hd h60 hp hp (by rw [sm_refl d hp]; exact kk)
end
end M61.B8

set_option Elab.async false
set_option linter.all false
set_option autoImplicit false
set_option maxRecDepth 100000
/-! Pmp: products of full tables. -/
namespace M61.MP
open PySem PySem.Spec PyProof.Rows L2
local macro_rules
  | `(tactic| simp_arith! [$ls,*] $[$loc:location]?) => `(tactic| try simp only [wipeR_cons, wipeR_nil, eq_self, denSs, denS, denE, denT, denEs, denO, denC, denL, denI, bindT_nm, bindT_tp, bindT_tl, bindTs_nil, bindTs_cons, varD_0, varD_s, varM_own0, varM_dat0, varM_s, varO_0, varO_s, varL_own0, varL_ref0, varL_s, sz, cp1, cp2, cp3, cp4, cp5, cp6, cp7, cp8, cp9, cp10, cp11, cp12, cp15, cp18, add_i, add_t, add_l, add_s, add_b, sub_b, sub_i, mul_i, mul_t, mul_l, fdiv_i, mod_i, pow_i, shl_i, eq_r, ne_r, inn_t, nin_t, inn_l, nin_l, lt_r, lt_tt, le_r, gt_r, ge_r, is_n, isn_n, is_b, isn_b, isNon_n, isNon_i, isNon_t, isNon_l, isNon_b, isNon_s, tru_n, tru_b, tru_i, tru_t, tru_l, ix_t, ix_l, ix_c, ix_r, cellAt_l, cellL_l, lstD_l, lstD_r, sqD_t, sqD_l, sl_t, sl_l, sl_c, sl_r, rev_t, rev_l, len_t, len_l, len_c, len_r, tup_t, tup_l, tup_r, sum_t, sum_l, sum_r, min_t, min_l, max_t, max_l, min_2, max_2, min_3, repr_r, str_ri, abs_i, int_i, int_b, all_l, any_l, ty_bb, ty_bi, ty_bn, ty_bt, ty_ss, ty_sn, ty_si, ty_sb, ty_ii, ty_ib, ty_in, ty_it, ty_tt, ty_tn, ty_ti, ty_tb, ty_ll, ty_lt, ty_is, ty_il, ty_bs, ty_blst, ty_st, ty_sl, ty_ts, ty_tl, ty_ln, ty_li, ty_lb, ty_ls, intsOf_map, boolsOf_map, pair_Cmp, int_Cmp, bl_Cmp, non_Cmp, ints_Cmp, intst_Cmp, eqv_int, eqv_bl, eqv_ints, eqv_intst, List.map_cons, List.map_nil, List.replicate_succ, List.replicate_zero, List.cons_append, List.nil_append, List.set_cons_zero, List.set_cons_succ, List.length_cons, List.length_nil, List.getElem?_cons_zero, List.getElem?_cons_succ, List.eraseIdx_cons_zero, Nat.reduceSub, Nat.reduceAdd, Nat.reduceLT, Nat.reduceLeDiff, Nat.reducePow, Nat.reduceEqDiff, Nat.reduceMul, Int.reducePow, Int.reduceToNat, Int.reduceMul, Int.reduceAdd, Int.reduceSub, Int.reduceNeg, Int.reduceLT, Int.reduceLE, Int.reduceEq, Int.reduceBEq, Int.reduceBNe, zero_add', not_true_eq_false, not_false_eq_true, Bool.true_eq_false, false_and, and_false, true_and, and_true, exists_eq_left', exists_and_left, Option.some.injEq, Cell.lst.injEq, Cell.dct.injEq, if_pos_true, reduceIte, Bool.false_eq_true, decide_true, decide_false, Bool.not_true, Bool.not_false, Bool.not_eq_true', Bool.and_true, Bool.true_and, decide_eq_true_eq, decide_eq_false_iff_not, ite_self, List.isEmpty_cons, List.isEmpty_nil, $ls,*] $[$loc]?)
open M61.k69 (Row cI WF Row_mem sk rD tbD at_row at_cell Row_map one oth one_iff oth_iff)
def isize_of : Def := ⟨1, 1,
  (.cons (.ret (.tup (.cons (.blt .len (.cons (.var 0) .nil)) (.cons (.blt .len (.cons (.ix (.var 0) (.int 0)) .nil)) .nil))))
  .nil)⟩
def ilaid_over : Def := ⟨1, 3,
  (.cons (.ret (.blt .tuple (.cons (.frz (.comp [1] (.blt .tuple (.cons (.frz (.comp [2] (.ix (.var 2) (.var 1)) (.nm 2) (.seq (.var 0)) .no)) .nil)) (.nm 1) (.rng1 (.blt .len (.cons (.ix (.var 0) (.int 0)) .nil))) .no)) .nil)))
  .nil)⟩
def iturned : Def := ⟨1, 2,
  (.cons (.ret (.blt .tuple (.cons (.frz (.comp [1] (.rev (.var 1)) (.nm 1) (.seq (.var 0)) .no)) .nil)))
  .nil)⟩
def icheck_fit : Def := ⟨2, 2,
  (.cons (.ife (.cmp .ne (.ix (.call "size_of" (.cons (.var 0) .nil)) (.int 1)) (.ix (.call "size_of" (.cons (.var 1) .nil)) (.int 0))) (.cons .nev
  .nil) .nil)
  .nil)⟩
def ifirst_least : Def := ⟨2, 4,
  (.cons (.set 2 (.int 0))
  (.cons (.for (.nm 3) (.rng2 (.int 1) (.blt .len (.cons (.var 0) .nil))) (.cons (.ife (.cmp .lt (.bin .add (.ix (.var 0) (.var 3)) (.ix (.var 1) (.var 3))) (.bin .add (.ix (.var 0) (.var 2)) (.ix (.var 1) (.var 2)))) (.cons (.set 2 (.var 3))
  .nil) .nil)
  .nil))
  (.cons (.ret (.tup (.cons (.var 2) (.cons (.bin .add (.ix (.var 0) (.var 2)) (.ix (.var 1) (.var 2))) .nil))))
  .nil)))⟩
def iall_leasts : Def := ⟨2, 5,
  (.cons (.exp (.call "check_fit" (.cons (.var 0) (.cons (.var 1) .nil))))
  (.cons (.set 2 (.call "laid_over" (.cons (.var 1) .nil)))
  (.cons (.ret (.blt .tuple (.cons (.frz (.comp [3] (.blt .tuple (.cons (.frz (.comp [4] (.call "first_least" (.cons (.var 3) (.cons (.var 4) .nil))) (.nm 4) (.seq (.var 2)) .no)) .nil)) (.nm 3) (.seq (.var 0)) .no)) .nil)))
  .nil)))⟩
def iproduct : Def := ⟨2, 4,
  (.cons (.ret (.blt .tuple (.cons (.frz (.comp [2] (.blt .tuple (.cons (.frz (.comp [3] (.ix (.var 3) (.int 1)) (.nm 3) (.seq (.var 2)) .no)) .nil)) (.nm 2) (.seq (.call "all_leasts" (.cons (.var 0) (.cons (.var 1) .nil)))) .no)) .nil)))
  .nil)⟩
def i_law_product : Def := ⟨2, 8,
  (.cons (.setF 2 (.comp [3] (.frz (.comp [4] (.ix (.var 4) (.var 3)) (.nm 4) (.seq (.var 1)) .no)) (.nm 3) (.rng1 (.blt .len (.cons (.ix (.var 1) (.int 0)) .nil))) .no))
  (.cons (.ret (.blt .tuple (.cons (.frz (.comp [4] (.blt .tuple (.cons (.frz (.comp [5] (.blt .min (.cons (.frz (.comp [6, 7] (.bin .add (.var 6) (.var 7)) (.tp (.cons (.nm 6) (.cons (.nm 7) .nil))) (.zip (.var 4) (.var 5)) .no)) .nil)) (.nm 5) (.seq (.var 2)) .no)) .nil)) (.nm 4) (.seq (.var 0)) .no)) .nil)))
  .nil))⟩
def i_law_pair : Def := ⟨1, 5,
  (.cons (.set 1 (.call "_law_one_way" (.cons (.var 0) (.cons (.call "_law_draw" (.cons (.var 0) (.cons (.int 3) .nil))) .nil))))
  (.cons (.set 2 (.call "_law_one_way" (.cons (.var 0) (.cons (.call "_law_draw" (.cons (.var 0) (.cons (.int 3) .nil))) .nil))))
  (.cons (.set 3 (.blt .min2 (.cons (.blt .len (.cons (.ix (.var 1) (.int 0)) .nil)) (.cons (.blt .len (.cons (.var 2) .nil)) .nil))))
  (.cons (.ret (.tup (.cons (.blt .tuple (.cons (.frz (.comp [4] (.sl (.var 4) .no (.yes (.var 3))) (.nm 4) (.seq (.var 1)) .no)) .nil)) (.cons (.sl (.var 2) .no (.yes (.var 3))) .nil))))
  .nil))))⟩
def icheck_square : Def := ⟨1, 3,
  (.cons (.unp (.tp (.cons (.nm 1) (.cons (.nm 2) .nil))) (.call "size_of" (.cons (.var 0) .nil)))
  (.cons (.ife (.cmp .ne (.var 1) (.var 2)) (.cons .nev
  .nil) .nil)
  .nil))⟩
def ipower : Def := ⟨2, 4,
  (.cons (.exp (.call "check_square" (.cons (.var 0) .nil)))
  (.cons (.set 2 .non)
  (.cons (.set 3 (.var 0))
  (.cons (.whl (.cmp .gt (.var 1) (.int 0)) (.cons (.ife (.and (.cmp .eq (.bin .mod (.var 1) (.int 2)) (.int 1)) (.cmp .is (.var 2) .non)) (.cons (.set 2 (.var 3))
  .nil) (.cons (.ife (.cmp .eq (.bin .mod (.var 1) (.int 2)) (.int 1)) (.cons (.set 2 (.call "product" (.cons (.var 2) (.cons (.var 3) .nil))))
  .nil) .nil)
  .nil))
  (.cons (.set 1 (.bin .fdiv (.var 1) (.int 2)))
  (.cons (.ife (.cmp .gt (.var 1) (.int 0)) (.cons (.set 3 (.call "product" (.cons (.var 3) (.cons (.var 3) .nil))))
  .nil) .nil)
  .nil))))
  (.cons (.ret (.var 2))
  .nil)))))⟩
def i_law_power : Def := ⟨2, 3,
  (.cons (.set 2 .non)
  (.cons (.whl (.cmp .gt (.var 1) (.int 0)) (.cons (.ife (.cmp .eq (.bin .mod (.var 1) (.int 2)) (.int 1)) (.cons (.set 2 (.ife (.cmp .is (.var 2) .non) (.var 0) (.call "_law_product" (.cons (.var 2) (.cons (.var 0) .nil)))))
  .nil) .nil)
  (.cons (.set 0 (.call "_law_product" (.cons (.var 0) (.cons (.var 0) .nil))))
  (.cons (.set 1 (.bin .fdiv (.var 1) (.int 2)))
  .nil))))
  (.cons (.ret (.var 2))
  .nil)))⟩
/-! ### least sums -/
theorem foldl_min_le : ∀ (r : List Int) (x : Int), r.foldl min x ≤ x ∧ ∀ y ∈ r, r.foldl min x ≤ y
  | [], x => ⟨Int.le_refl _, fun _ h => absurd h (by simp)⟩
  | a :: r, x => by
    obtain ⟨h1, h2⟩ := foldl_min_le r (min x a)
    refine ⟨by show r.foldl min (min x a) ≤ x; omega, fun y hy => ?_⟩
    rcases List.mem_cons.mp hy with rfl | q
    · show r.foldl min (min x y) ≤ y; omega
    · exact h2 y q
theorem foldl_min_mem : ∀ (r : List Int) (x : Int), r.foldl min x = x ∨ r.foldl min x ∈ r
  | [], x => .inl rfl
  | a :: r, x => by
    have h := foldl_min_mem r (min x a)
    show r.foldl min (min x a) = x ∨ r.foldl min (min x a) ∈ a :: r
    rcases h with h | h
    · rcases (show min x a = x ∨ min x a = a by omega) with q | q
      · rw [q] at h; rw [q]; exact .inl h
      · rw [q] at h; rw [q, h]; exact .inr (List.mem_cons_self)
    · exact .inr (List.mem_cons_of_mem _ h)
theorem minI_le {ns : List Int} {y : Int} (h : y ∈ ns) : minI ns ≤ y := by
  cases ns with
  | nil => exact absurd h (by simp)
  | cons x r =>
    obtain ⟨h1, h2⟩ := foldl_min_le r x
    rcases List.mem_cons.mp h with rfl | q
    · exact h1
    · exact h2 y q
theorem minI_mem {ns : List Int} (h : ns ≠ []) : minI ns ∈ ns := by
  cases ns with
  | nil => exact absurd rfl h
  | cons x r =>
    rcases foldl_min_mem r x with q | q
    · show r.foldl min x ∈ _; rw [q]; exact List.mem_cons_self
    · exact List.mem_cons_of_mem _ q
theorem minI_eq {ns : List Int} {m : Int} (h : m ∈ ns) (q : ∀ y ∈ ns, m ≤ y) : minI ns = m := by
  have h1 := minI_le h
  have h2 := q _ (minI_mem (List.ne_nil_of_mem h))
  omega
/-- the least of the sums of two rows -/
def ms (r c : List Int) : Int := minI (List.zipWith (· + ·) r c)
theorem zw_get {r c : List Int} {j : Nat} (h1 : j < r.length) (h2 : j < c.length) : (List.zipWith (· + ·) r c)[j]? = some (cI r j + cI c j) := by
  rw [List.getElem?_zipWith]
  unfold cI
  rw [List.getElem?_eq_getElem h1, List.getElem?_eq_getElem h2]; rfl
theorem zw_mem {r c : List Int} {x : Int} (e : r.length = c.length) (h : x ∈ List.zipWith (· + ·) r c) : ∃ j, j < r.length ∧ x = cI r j + cI c j := by
  obtain ⟨j, hj, hx⟩ := List.getElem_of_mem h
  rw [List.length_zipWith] at hj
  refine ⟨j, by omega, ?_⟩
  have := zw_get (r := r) (c := c) (j := j) (by omega) (by omega)
  rw [List.getElem?_eq_getElem (by rw [List.length_zipWith]; omega)] at this
  rw [← hx]
  exact Option.some.inj this
theorem ms_le {r c : List Int} {j : Nat} (e : r.length = c.length) (h : j < r.length) : ms r c ≤ cI r j + cI c j := by
  unfold ms
  exact minI_le (List.mem_of_getElem? (zw_get h (by omega)))
theorem ms_at {r c : List Int} (e : r.length = c.length) (h : 0 < r.length) : ∃ j, j < r.length ∧ ms r c = cI r j + cI c j := by
  have hne : List.zipWith (· + ·) r c ≠ [] := by
    intro q
    have : (List.zipWith (· + ·) r c).length = 0 := by rw [q]; rfl
    rw [List.length_zipWith] at this; omega
  exact zw_mem e (minI_mem hne)
theorem ms_eq {r c : List Int} {f : Nat} (e : r.length = c.length) (h : f < r.length) (q : ∀ j, j < r.length → cI r f + cI c f ≤ cI r j + cI c j) : ms r c = cI r f + cI c f := by
  obtain ⟨j, hj, e2⟩ := ms_at e (by omega)
  have := ms_le e h
  have := q j hj
  omega
theorem cI_reverse {r : List Int} {k : Nat} (h : k < r.length) : cI r.reverse k = cI r (r.length - 1 - k) := by unfold cI; rw [List.getElem?_reverse h]
theorem ms_rev {r c : List Int} (e : r.length = c.length) (h : 0 < r.length) : ms r.reverse c.reverse = ms r c := by
  obtain ⟨j, hj, e2⟩ := ms_at e h
  rw [e2]
  have hj2 : r.length - 1 - j < r.length := by omega
  have t : cI r.reverse (r.length - 1 - j) + cI c.reverse (r.length - 1 - j) = cI r j + cI c j := by
    rw [cI_reverse hj2, cI_reverse (by omega)]
    have e1 : r.length - 1 - (r.length - 1 - j) = j := by omega
    have e3 : c.length - 1 - (r.length - 1 - j) = j := by omega
    rw [e1, e3]
  rw [ms_eq (r := r.reverse) (c := c.reverse) (f := r.length - 1 - j) (by rw [List.length_reverse, List.length_reverse]; exact e) (by rw [List.length_reverse]; exact hj2) fun l hl => ?_, t]
  rw [t, ← e2]
  rw [List.length_reverse] at hl
  rw [cI_reverse hl, cI_reverse (by omega), ← e]
  exact ms_le e (by omega)
/-- a less b never falls -/
def Mono (p : Nat) (a b : List Int) : Prop := ∀ j l, j ≤ l → l < p → cI a j - cI b j ≤ cI a l - cI b l
theorem mono_of {p : Nat} {a b : List Int} (h : ∀ k, k + 1 < p → cI a k - cI b k ≤ cI a (k + 1) - cI b (k + 1)) : Mono p a b := by
  intro j l
  induction l with
  | zero => intro h1 _; have : j = 0 := by omega
            subst this; exact Int.le_refl _
  | succ l ih =>
    intro h1 h2
    rcases Nat.lt_or_ge l j with q | q
    · have : j = l + 1 := by omega
      subst this; exact Int.le_refl _
    · have := ih q (by omega)
      have := h l h2
      omega
theorem ms_core {p : Nat} {a b x y : List Int} (ha : a.length = p) (hb : b.length = p) (hx : x.length = p) (hy : y.length = p) (hp : 0 < p) (f : Mono p a b) (g : Mono p x y) : ms a x + ms b y ≤ ms a y + ms b x := by
  obtain ⟨j, hj, e1⟩ := ms_at (r := a) (c := y) (by omega) (by omega)
  obtain ⟨l, hl, e2⟩ := ms_at (r := b) (c := x) (by omega) (by omega)
  rcases Nat.le_total j l with q | q
  · have h1 := ms_le (r := a) (c := x) (j := j) (by omega) hj
    have h2 := ms_le (r := b) (c := y) (j := l) (by omega) hl
    have := g j l q (by omega)
    omega
  · have h1 := ms_le (r := a) (c := x) (j := l) (by omega) (by omega)
    have h2 := ms_le (r := b) (c := y) (j := j) (by omega) (by omega)
    have := f l j q (by omega)
    omega
/-! ### products -/
def colL (t : List (List Int)) (k : Nat) : List Int := t.map fun r => cI r k
def prod (n : Nat) (A B : List (List Int)) : List (List Int) := A.map fun r => (List.range n).map fun k => ms r (colL B k)
theorem colL_len (t : List (List Int)) (k : Nat) : (colL t k).length = t.length := List.length_map _
theorem colL_at {t : List (List Int)} {k j : Nat} (h : j < t.length) : cI (colL t k) j = cI (Row t j) k := by
  have e : (colL t k)[j]? = some (cI (t[j]) k) := by
    unfold colL; rw [List.getElem?_map, List.getElem?_eq_getElem h]; rfl
  have e2 : cI (colL t k) j = cI (t[j]) k := by
    show ((colL t k)[j]?).getD 0 = _
    rw [e]; rfl
  rw [e2]
  unfold k69.Row
  rw [List.getElem?_eq_getElem h]; rfl
theorem prod_len (n : Nat) (A B : List (List Int)) : (prod n A B).length = A.length := List.length_map _
theorem prod_wf {A B : List (List Int)} {m n : Nat} (WA : WF A m) (n1 : 1 ≤ n) (n2 : n ≤ 12) : WF (prod n A B) n := by
  refine ⟨by rw [prod_len]; exact WA.h1, by rw [prod_len]; exact WA.h2, n1, n2, fun r h => ?_⟩
  unfold prod at h
  obtain ⟨q, _, rfl⟩ := List.mem_map.mp h
  rw [List.length_map, List.length_range]
theorem prod_row {A B : List (List Int)} {n i : Nat} (h : i < A.length) : Row (prod n A B) i = (List.range n).map fun k => ms (Row A i) (colL B k) := by
  unfold k69.Row prod
  rw [List.getElem?_map, List.getElem?_eq_getElem h]; rfl
theorem prod_at {A B : List (List Int)} {n i k : Nat} (h : i < A.length) (hk : k < n) : cI (Row (prod n A B) i) k = ms (Row A i) (colL B k) := by
  rw [prod_row h]
  unfold cI
  rw [List.getElem?_map, List.getElem?_range hk]; rfl
/-- all slacks at least 0, or at most 0 -/
def Up (w : Nat) (t : List (List Int)) : Prop := ∀ i k, i + 1 < t.length → k + 1 < w → 0 ≤ sk (Row t i) (Row t (i + 1)) k
def Dn (w : Nat) (t : List (List Int)) : Prop := ∀ i k, i + 1 < t.length → k + 1 < w → sk (Row t i) (Row t (i + 1)) k ≤ 0
section
variable {A B : List (List Int)} {m n : Nat}
theorem rows_up {w : Nat} (h : Up w A) {i : Nat} (hi : i + 1 < A.length) : Mono w (Row A i) (Row A (i + 1)) := mono_of fun k hk => by
  have := h i k hi hk; unfold sk at this; omega
theorem rows_dn {w : Nat} (h : Dn w A) {i : Nat} (hi : i + 1 < A.length) : Mono w (Row A (i + 1)) (Row A i) := mono_of fun k hk => by
  have := h i k hi hk; unfold sk at this; omega
theorem cols_up {w : Nat} (h : Up w B) {k : Nat} (hk : k + 1 < w) : Mono B.length (colL B k) (colL B (k + 1)) := mono_of fun i hi => by
  have := h i k hi hk
  rw [colL_at (by omega), colL_at (by omega), colL_at (by omega), colL_at (by omega)]
  unfold sk at this; omega
theorem cols_dn {w : Nat} (h : Dn w B) {k : Nat} (hk : k + 1 < w) : Mono B.length (colL B (k + 1)) (colL B k) := mono_of fun i hi => by
  have := h i k hi hk
  rw [colL_at (by omega), colL_at (by omega), colL_at (by omega), colL_at (by omega)]
  unfold sk at this; omega
variable (WA : WF A m) (WB : WF B n) (fit : m = B.length)
include WA WB fit
theorem prod_lens {i k : Nat} (hi : i < A.length) : (Row A i).length = B.length ∧ (colL B k).length = B.length := ⟨by rw [WA.rl hi, fit], colL_len B k⟩
theorem prod_uu (h1 : Up m A) (h2 : Up n B) : Up n (prod n A B) := fun i k hi hk => by
  rw [prod_len] at hi
  unfold sk
  rw [prod_at (by omega) (by omega), prod_at hi (by omega), prod_at (by omega) (by omega), prod_at hi (by omega)]
  have := ms_core (p := B.length) (prod_lens WA WB fit (k := 0) (show i < A.length by omega)).1 (prod_lens WA WB fit (k := 0) hi).1 (colL_len B k) (colL_len B (k + 1)) WB.h1 (by rw [← fit]; exact rows_up h1 hi) (cols_up h2 hk)
  omega
theorem prod_dd (h1 : Dn m A) (h2 : Dn n B) : Up n (prod n A B) := fun i k hi hk => by
  rw [prod_len] at hi
  unfold sk
  rw [prod_at (by omega) (by omega), prod_at hi (by omega), prod_at (by omega) (by omega), prod_at hi (by omega)]
  have := ms_core (p := B.length) (prod_lens WA WB fit (k := 0) hi).1 (prod_lens WA WB fit (k := 0) (show i < A.length by omega)).1 (colL_len B (k + 1)) (colL_len B k) WB.h1 (by rw [← fit]; exact rows_dn h1 hi) (cols_dn h2 hk)
  omega
theorem prod_ud (h1 : Up m A) (h2 : Dn n B) : Dn n (prod n A B) := fun i k hi hk => by
  rw [prod_len] at hi
  unfold sk
  rw [prod_at (by omega) (by omega), prod_at hi (by omega), prod_at (by omega) (by omega), prod_at hi (by omega)]
  have := ms_core (p := B.length) (prod_lens WA WB fit (k := 0) (show i < A.length by omega)).1 (prod_lens WA WB fit (k := 0) hi).1 (colL_len B (k + 1)) (colL_len B k) WB.h1 (by rw [← fit]; exact rows_up h1 hi) (cols_dn h2 hk)
  omega
theorem prod_du (h1 : Dn m A) (h2 : Up n B) : Dn n (prod n A B) := fun i k hi hk => by
  rw [prod_len] at hi
  unfold sk
  rw [prod_at (by omega) (by omega), prod_at hi (by omega), prod_at (by omega) (by omega), prod_at hi (by omega)]
  have := ms_core (p := B.length) (prod_lens WA WB fit (k := 0) hi).1 (prod_lens WA WB fit (k := 0) (show i < A.length by omega)).1 (colL_len B k) (colL_len B (k + 1)) WB.h1 (by rw [← fit]; exact rows_dn h1 hi) (cols_up h2 hk)
  omega
theorem prod_turn : prod n A (B.map List.reverse) = (prod n A B).map List.reverse := by
  unfold prod
  rw [List.map_map]
  refine List.map_congr_left fun r hr => ?_
  show (List.range n).map (fun k => ms r (colL (B.map List.reverse) k)) = ((List.range n).map fun k => ms r (colL B k)).reverse
  refine List.ext_getElem (by rw [List.length_map, List.length_range, List.length_reverse, List.length_map, List.length_range]) fun k k1 k2 => ?_
  rw [List.length_map, List.length_range] at k1
  rw [List.getElem_map, List.getElem_range, List.getElem_reverse, List.getElem_map, List.getElem_range, List.length_map, List.length_range]
  congr 1
  unfold colL
  rw [List.map_map]
  refine List.map_congr_left fun r hr => ?_
  show cI r.reverse k = _
  rw [cI_reverse (by rw [WB.row r hr]; exact k1), WB.row r hr]
theorem prod_both : prod n (A.map List.reverse) B.reverse = prod n A B := by
  unfold prod
  rw [List.map_map]
  refine List.map_congr_left fun r hr => ?_
  refine List.map_congr_left fun k hk => ?_
  show ms r.reverse (colL B.reverse k) = _
  have e : colL B.reverse k = (colL B k).reverse := by unfold colL; rw [List.map_reverse]
  rw [e]
  refine ms_rev (by rw [WA.row r hr, colL_len, fit]) (by rw [WA.row r hr]; exact WA.w1)
end
/-! ### powers -/
def pstep (w : Nat) (many : Nat) (f : Option (List (List Int))) (g : List (List Int)) : Option (List (List Int)) := if many % 2 = 1 then some (match f with | none => g | some h => prod w h g) else f
def pw (w : Nat) : Nat → Nat → Option (List (List Int)) → List (List Int) → Option (List (List Int))
  | 0, _, f, _ => f
  | n + 1, many, f, g => if many = 0 then f else pw w n (many / 2) (pstep w many f g) (prod w g g)
/-- square -/
def Sq (w : Nat) (t : List (List Int)) : Prop := WF t w ∧ t.length = w
theorem sq_prod {w : Nat} {a b : List (List Int)} (ha : Sq w a) (hb : Sq w b) : Sq w (prod w a b) := ⟨prod_wf ha.1 hb.1.w1 hb.1.w2, by rw [prod_len]; exact ha.2⟩
theorem up_prod {w : Nat} {a b : List (List Int)} (ha : Sq w a) (hb : Sq w b) (h1 : Up w a) (h2 : Up w b) : Up w (prod w a b) := prod_uu ha.1 hb.1 (by rw [hb.2]) h1 h2
theorem pw_some {w : Nat} (Q : List (List Int) → Prop) (hQ : ∀ h g, Sq w h → Sq w g → Q h → Up w g → Q (prod w h g)) : ∀ (n many : Nat) (h g : List (List Int)), Sq w h → Sq w g → Q h → Up w g → ∃ h', pw w n many (some h) g = some h' ∧ Sq w h' ∧ Q h'
  | 0, _, h, _, s, _, q, _ => ⟨h, rfl, s, q⟩
  | n + 1, many, h, g, s, sg, q, u => by
    unfold pw
    split
    · exact ⟨h, rfl, s, q⟩
    · unfold pstep
      split
      · exact pw_some Q hQ n _ _ _ (sq_prod s sg) (sq_prod sg sg) (hQ h g s sg q u) (up_prod sg sg u u)
      · exact pw_some Q hQ n _ _ _ s (sq_prod sg sg) q (up_prod sg sg u u)
theorem pw_none {w : Nat} : ∀ (n many : Nat) (g : List (List Int)), many ≤ n → 1 ≤ many → Sq w g → Up w g → ∃ h', pw w n many none g = some h' ∧ Sq w h' ∧ Up w h'
  | 0, many, _, h1, h2, _, _ => by omega
  | n + 1, many, g, h1, h2, sg, u => by
    unfold pw
    rw [if_neg (by omega)]
    unfold pstep
    split
    · exact pw_some (Up w) (fun h g s sg q u => up_prod s sg q u) n _ _ _ sg (sq_prod sg sg) u (up_prod sg sg u u)
    · exact pw_none n _ _ (by omega) (by omega) (sq_prod sg sg) (up_prod sg sg u u)
theorem pw_sq {w : Nat} : ∀ (n many : Nat) (f : Option (List (List Int))) (g : List (List Int)), many ≤ n → (1 ≤ many ∨ ∃ h, f = some h) → (∀ h, f = some h → Sq w h) → Sq w g → ∃ h', pw w n many f g = some h' ∧ Sq w h'
  | 0, many, f, _, h1, h2, hf, sg => by
    rcases h2 with h2 | ⟨h, rfl⟩
    · omega
    · exact ⟨h, rfl, hf h rfl⟩
  | n + 1, many, f, g, h1, h2, hf, sg => by
    unfold pw
    split
    · rename_i z
      rcases h2 with h2 | ⟨h, rfl⟩
      · omega
      · exact ⟨h, rfl, hf h rfl⟩
    · rename_i z
      unfold pstep
      split
      · refine pw_sq n _ _ _ (by omega) (.inr ⟨_, rfl⟩) (fun h e => ?_) (sq_prod sg sg)
        cases e
        cases f with
        | none => exact sg
        | some h => exact sq_prod (hf h rfl) sg
      · rename_i z2
        exact pw_sq n _ _ _ (by omega) (.inl (by omega)) hf (sq_prod sg sg)
theorem pw_up {w n many : Nat} {t h : List (List Int)} (h1 : many ≤ n) (h2 : 1 ≤ many) (s : Sq w t) (u : Up w t) (e : pw w n many none t = some h) : Up w h := by
  obtain ⟨h', e', _, u'⟩ := pw_none n many t h1 h2 s u
  rw [e] at e'; cases e'; exact u'
theorem pw_dn {w n many : Nat} {t h : List (List Int)} (h1 : many ≤ n) (h2 : 1 ≤ many) (s : Sq w t) (u : Dn w t) (e : pw w n many none t = some h) : (many % 2 = 1 → Dn w h) ∧ (many % 2 = 0 → Up w h) := by
  obtain ⟨m, rfl⟩ : ∃ m, n = m + 1 := ⟨n - 1, by omega⟩
  have u2 : Up w (prod w t t) := prod_dd s.1 s.1 (by rw [s.2]) u u
  unfold pw at e
  rw [if_neg (by omega)] at e
  refine ⟨fun q => ?_, fun q => ?_⟩
  · unfold pstep at e
    rw [if_pos q] at e
    obtain ⟨h', e', _, d⟩ := pw_some (Dn w) (fun h g sh sg q u => prod_du sh.1 sg.1 (by rw [sg.2]) q u) m (many / 2) t (prod w t t) s (sq_prod s s) u u2
    have e' : pw w m (many / 2) (some t) (prod w t t) = some h' := e'
    rw [show pw w m (many / 2) (some t) (prod w t t) = some h from e] at e'; cases e'; exact d
  · unfold pstep at e
    rw [if_neg (by omega)] at e
    obtain ⟨h', e', _, d⟩ := pw_none m (many / 2) (prod w t t) (by omega) (by omega) (sq_prod s s) u2
    rw [e] at e'; cases e'; exact d
theorem one_up (w : Nat) (t : List (List Int)) : one w t = true ↔ Up w t := one_iff w t
theorem oth_dn (w : Nat) (t : List (List Int)) : oth w t = true ↔ Dn w t := oth_iff w t
/-! ### tables as things -/
theorem rD_pq {r : List Int} (h : r.length ≤ 1000000) : B8.pq (rD r) = true := B8.pq_tup (by rw [List.length_map]; exact h) fun x hx => by
  obtain ⟨i, _, rfl⟩ := List.mem_map.mp hx; rfl
theorem rD_dep (r : List Int) : (rD r).dep = 1 := by show D.deps (r.map .int) + 1 = 1; rw [ints_deps]
theorem tbD_pq {t : List (List Int)} (h : t.length ≤ 1000000) (q : ∀ r ∈ t, r.length ≤ 1000000) : B8.pq (tbD t) = true := B8.pq_tup (by rw [List.length_map]; exact h) fun x hx => by
  obtain ⟨r, hr, rfl⟩ := List.mem_map.mp hx; exact rD_pq (q r hr)
theorem tbD_dep (t : List (List Int)) : (tbD t).dep ≤ 2 := by
  have : D.deps (t.map rD) ≤ 1 := B8.deps_of fun x hx => by
    obtain ⟨r, _, rfl⟩ := List.mem_map.mp hx; rw [rD_dep]; exact Nat.le_refl _
  show D.deps (t.map rD) + 1 ≤ 2
  omega
theorem wf_pq {t : List (List Int)} {w : Nat} (W : WF t w) : B8.pq (tbD t) = true := tbD_pq (by have := W.h2; omega) fun r hr => by rw [W.row r hr]; have := W.w2; omega
theorem wf_Cmp {t : List (List Int)} {w : Nat} (W : WF t w) : (tbD t).Cmp := B8.pq_Cmp (wf_pq W) (by have := tbD_dep t; omega)
theorem row_get {t : List (List Int)} {r : List Int} {w k : Nat} (W : WF t w) (h : r ∈ t) (hk : k < w) : atI (r.map D.int) (k : Int) = some (.int (cI r k)) := at_cell (by rw [W.row r h]; exact hk)
section
variable {tb : List (String × Def)} {n : Nat} {a b : Addr} {C : CM} {P : D → CM → Prop} {ex : Exc → CM → Prop} {G : Ctx}
theorem size_of_ok {t : List (List Int)} {w : Nat} (W : WF t w) (kk : P (.tup [.int (t.length : Nat), .int (w : Nat)]) C) : denF G isize_of [tbD t] C P := by
  refine ⟨rfl, ?_⟩
  have h0 : 0 < t.length := W.h1
  have e0 : atI (t.map rD) 0 = some (rD (Row t 0)) := at_row (i := 0) h0
  simp_arith! [isize_of, tbD, e0, rD, List.length_map, W.rl h0]
  exact ⟨C, sub_refl _, kk⟩
def SizeR (ds : List D) (C : CM) (P : D → CM → Prop) : Prop := ∃ t w, ds = [tbD t] ∧ WF t w ∧ P (.tup [.int (t.length : Nat), .int (w : Nat)]) C
def overL (w : Nat) (t : List (List Int)) : List (List Int) := (List.range w).map (colL t)
theorem laid_over_ok {t : List (List Int)} {w : Nat} (W : WF t w) (kk : P (tbD (overL w t)) C) : denF G ilaid_over [tbD t] C P := by
  refine ⟨rfl, ?_⟩
  have h0 : 0 < t.length := W.h1
  have h2 := W.h2
  have w2 := W.w2
  have e0 : atI (t.map rD) 0 = some (rD (Row t 0)) := at_row (i := 0) h0
  simp_arith! [ilaid_over, tbD, e0, rD, List.length_map, W.rl h0, Int.toNat_natCast, rangeD_map]
  refine ⟨by omega, by omega, ?_⟩
  refine comp_mapL (fun k : Nat => .int (k : Int)) (fun k => rD (colL t k)) (by rw [List.length_range, sz]; omega) (fun k hk K kK => ?_) ?_
  · have hk := List.mem_range.mp hk
    try simp_arith! []
    refine comp_mapL rD (fun r => .int (cI r k)) (by rw [sz]; omega) (fun r hr K2 kK2 => ?_) ?_
    · simp_arith! [rD, row_get W hr hk]
      exact kK2
    · have e : (t.map fun r => D.int (cI r k)) = (colL t k).map .int := by unfold colL; rw [List.map_map]; rfl
      try simp_arith! [e]
      exact kK
  · have e : ((List.range w).map fun k => rD (colL t k)) = (overL w t).map rD := by unfold overL; rw [List.map_map]; rfl
    try simp_arith! [e]
    exact ⟨C, sub_refl _, kk⟩
def OverR (ds : List D) (C : CM) (P : D → CM → Prop) : Prop := ∃ t w, ds = [tbD t] ∧ WF t w ∧ P (tbD (overL w t)) C
theorem turned_ok {t : List (List Int)} {w : Nat} (W : WF t w) (kk : P (tbD (t.map List.reverse)) C) : denF G iturned [tbD t] C P := by
  refine ⟨rfl, ?_⟩
  have h2 := W.h2
  simp_arith! [iturned, tbD]
  refine comp_mapL rD (fun r => rD r.reverse) (by rw [sz]; omega) (fun r _ K kK => ?_) ?_
  · unfold rD at kK ⊢
    rw [List.map_reverse] at kK
    try simp_arith! []
    exact kK
  · have e : (t.map fun r => rD r.reverse) = (t.map List.reverse).map rD := by rw [List.map_map]; rfl
    try simp_arith! [e]
    exact ⟨C, sub_refl _, kk⟩
def TurnR (ds : List D) (C : CM) (P : D → CM → Prop) : Prop := ∃ t w, ds = [tbD t] ∧ WF t w ∧ P (tbD (t.map List.reverse)) C
theorem check_fit_ok (hs : Sp tb "size_of" 1 SizeR) (hn : 1 ≤ n) {A B : List (List Int)} {m w : Nat} (WA : WF A m) (WB : WF B w) (fit : m = B.length) (kk : P .non C) : denF ⟨Gm tb n, ex⟩ icheck_fit [tbD A, tbD B] C P := by
  refine ⟨rfl, ?_⟩
  simp_arith! [icheck_fit]
  refine hs n hn _ _ _ _ ⟨A, m, rfl, WA, ?_⟩
  try simp_arith! [atI_1]
  refine hs n hn _ _ _ _ ⟨B, w, rfl, WB, ?_⟩
  try simp_arith! [atI_0, fit]
  exact ⟨C, sub_refl _, kk⟩
def FitR (ds : List D) (C : CM) (P : D → CM → Prop) : Prop := ∃ A B m w, ds = [tbD A, tbD B] ∧ WF A m ∧ WF B w ∧ m = B.length ∧ P .non C
theorem first_least_ok {r c : List Int} (e : r.length = c.length) (h1 : 1 ≤ r.length) (h2 : r.length ≤ 12) (kk : ∀ f : Nat, P (.tup [.int (f : Int), .int (ms r c)]) C) : denF G ifirst_least [rD r, rD c] C P := by
  refine ⟨rfl, ?_⟩
  have e1 : ((r.length : Int) - 1).toNat = r.length - 1 := by omega
  simp_arith! [ifirst_least, rD, List.length_map, e1, M61.B8.range1_map]
  refine ⟨⟨by omega, by omega, by omega, by omega⟩, ?_⟩
  refine for_invL (fun j : Nat => .int ((j + 1 : Nat) : Int)) (xs := List.range (r.length - 1)) (I := fun done ρ C' => ∃ (f : Nat) (x3 : Option Dv), ρ = [some (.dat (.tup (r.map .int))), some (.dat (.tup (c.map .int))), some (.dat (.int (f : Int))), x3] ∧ C' = C ∧ f < r.length ∧ f ≤ done.length ∧ ∀ j, j ≤ done.length → cI r f + cI c f ≤ cI r j + cI c j) ⟨0, _, rfl, rfl, by omega, by simp, fun j hj => by
    have : j = 0 := by simpa using hj
    subst this; exact Int.le_refl _⟩ (fun done x rest ρ C1 e2 ⟨f, x3, hρ, hc, hf, hfd, hm⟩ nx knx => ?_) fun ρ C1 ⟨f, x3, hρ, hc, hf, hfd, hm⟩ => ?_
  · subst hρ hc
    have hx : x = done.length ∧ done.length + 1 < r.length := by
      have hl : (List.range (r.length - 1)).length = done.length + (rest.length + 1) := by rw [e2, List.length_append, List.length_cons]
      rw [List.length_range] at hl
      have : (List.range (r.length - 1))[done.length]? = some x := by rw [e2, List.getElem?_append_right (Nat.le_refl _), Nat.sub_self]; rfl
      rw [List.getElem?_range (by omega)] at this
      exact ⟨(Option.some.inj this).symm, by omega⟩
    obtain ⟨rfl, hx2⟩ := hx
    try simp_arith! [at_cell hf, at_cell (show f < c.length by omega), at_cell hx2, at_cell (show done.length + 1 < c.length by omega)]
    split
    · rename_i hlt
      refine knx _ _ ⟨done.length + 1, _, rfl, rfl, hx2, by rw [List.length_append]; exact Nat.le_refl _, fun j hj => ?_⟩
      rw [List.length_append, List.length_singleton] at hj
      rcases Nat.lt_or_ge done.length j with q | q
      · have : j = done.length + 1 := by omega
        subst this; exact Int.le_refl _
      · have := hm j q; omega
    · rename_i hlt
      refine knx _ _ ⟨f, _, rfl, rfl, hf, by rw [List.length_append, List.length_singleton]; omega, fun j hj => ?_⟩
      rw [List.length_append, List.length_singleton] at hj
      rcases Nat.lt_or_ge done.length j with q | q
      · have : j = done.length + 1 := by omega
        subst this; omega
      · exact hm j q
  · subst hρ hc
    try simp_arith! [at_cell hf, at_cell (show f < c.length by omega)]
    have em : ms r c = cI r f + cI c f := ms_eq e hf fun j hj => hm j (by rw [List.length_range]; omega)
    rw [← em]
    exact ⟨C1, sub_refl _, kk f⟩
def FirstR (ds : List D) (C : CM) (P : D → CM → Prop) : Prop := ∃ r c, ds = [rD r, rD c] ∧ r.length = c.length ∧ 1 ≤ r.length ∧ r.length ≤ 12 ∧ ∀ f : Nat, P (.tup [.int (f : Int), .int (ms r c)]) C
/-- what all_leasts gives: rows of pairs -/
def AllD (n : Nat) (A B : List (List Int)) (d : D) : Prop := ∃ ys : List (List (Nat × Int)), d = .tup (ys.map fun y => .tup (y.map fun p => .tup [.int (p.1 : Nat), .int p.2])) ∧ ys.map (fun y => y.map Prod.snd) = prod n A B
theorem all_leasts_ok (h1 : Sp tb "check_fit" 2 FitR) (h2 : Sp tb "laid_over" 1 OverR) (h3 : Sp tb "first_least" 1 FirstR) (hn : 2 ≤ n) {A B : List (List Int)} {m w : Nat} (WA : WF A m) (WB : WF B w) (fit : m = B.length) (kk : ∀ d, AllD w A B d → P d C) : denF ⟨Gm tb n, ex⟩ iall_leasts [tbD A, tbD B] C P := by
  refine ⟨rfl, ?_⟩
  have a2 := WA.h2
  have w2 := WB.w2
  simp_arith! [iall_leasts]
  refine h1 n hn _ _ _ _ ⟨A, B, m, w, rfl, WA, WB, fit, ?_⟩
  try simp_arith! []
  refine h2 n (by omega) _ _ _ _ ⟨B, w, rfl, WB, ?_⟩
  simp_arith! [tbD]
  refine B8.comp_mapE (α := List Int) (β := List (Nat × Int)) rD (fun y => .tup (y.map fun p => .tup [.int (p.1 : Nat), .int p.2])) (fun r y => y.map Prod.snd = (List.range w).map fun k => ms r (colL B k)) (by rw [sz]; omega) (fun r hr K kK => ?_) fun ys hys => ?_
  · try simp_arith! []
    refine B8.comp_mapE (α := List Int) (β := Nat × Int) rD (fun p => .tup [.int (p.1 : Nat), .int p.2]) (fun c p => p.2 = ms r c) (by unfold overL; rw [List.length_map, List.length_range, sz]; omega) (fun c hc K2 kK2 => ?_) fun zs hzs => ?_
    · try simp_arith! []
      have hcl : c.length = B.length := by
        unfold overL at hc
        obtain ⟨k, _, rfl⟩ := List.mem_map.mp hc
        exact colL_len B k
      refine h3 n (by omega) _ _ _ _ ⟨r, c, rfl, by rw [WA.row r hr, fit, hcl], by rw [WA.row r hr]; exact WA.w1, by rw [WA.row r hr]; exact WA.w2, fun f => ?_⟩
      exact kK2 (f, ms r c) rfl
    · try simp_arith! []
      refine kK zs ?_
      have := B8.map_rel (f := fun c => ms r c) (g := Prod.snd) hzs
      rw [this]
      unfold overL
      rw [List.map_map]; rfl
  · try simp_arith! []
    refine ⟨C, sub_refl _, kk _ ⟨ys, rfl, ?_⟩⟩
    exact B8.map_rel (f := fun r => (List.range w).map fun k => ms r (colL B k)) (g := fun y : List (Nat × Int) => y.map Prod.snd) hys
def AllR (ds : List D) (C : CM) (P : D → CM → Prop) : Prop := ∃ A B m w, ds = [tbD A, tbD B] ∧ WF A m ∧ WF B w ∧ m = B.length ∧ ∀ d, AllD w A B d → P d C
theorem product_ok (h1 : Sp tb "all_leasts" 3 AllR) (hn : 3 ≤ n) {A B : List (List Int)} {m w : Nat} (WA : WF A m) (WB : WF B w) (fit : m = B.length) (kk : P (tbD (prod w A B)) C) : denF ⟨Gm tb n, ex⟩ iproduct [tbD A, tbD B] C P := by
  refine ⟨rfl, ?_⟩
  simp_arith! [iproduct]
  refine h1 n hn _ _ _ _ ⟨A, B, m, w, rfl, WA, WB, fit, fun d ⟨ys, e, hy⟩ => ?_⟩
  subst e
  have hl : ys.length = A.length := by
    have := congrArg List.length hy
    rw [List.length_map, prod_len] at this; exact this
  have a2 := WA.h2
  have w2 := WB.w2
  try simp_arith! []
  have hsz : ys.length ≤ sizeLine := by rw [sz]; omega
  refine comp_mapL (xs := ys) (fun y : List (Nat × Int) => .tup (y.map fun p => .tup [.int (p.1 : Nat), .int p.2])) (fun y => rD (y.map Prod.snd)) hsz (fun y hy2 K kK => ?_) ?_
  · have hyl : y.length = w := by
      have hm : y.map Prod.snd ∈ prod w A B := by rw [← hy]; exact List.mem_map.mpr ⟨y, hy2, rfl⟩
      have := (prod_wf (B := B) WA WB.w1 WB.w2).row _ hm
      rw [List.length_map] at this; exact this
    try simp_arith! []
    refine comp_mapL (fun p : Nat × Int => .tup [.int (p.1 : Nat), .int p.2]) (fun p => .int p.2) (by rw [sz]; omega) (fun p _ K2 kK2 => ?_) ?_
    · try simp_arith! [atI_1]
      exact kK2
    · have e : (y.map fun p => D.int p.2) = (y.map Prod.snd).map .int := by rw [List.map_map]; rfl
      try simp_arith! [e]
      exact kK
  · have e : (ys.map fun y => rD (y.map Prod.snd)) = (prod w A B).map rD := by rw [← hy, List.map_map]; rfl
    try simp_arith! [e]
    exact ⟨C, sub_refl _, kk⟩
def ProdR (ds : List D) (C : CM) (P : D → CM → Prop) : Prop := ∃ A B m w, ds = [tbD A, tbD B] ∧ WF A m ∧ WF B w ∧ m = B.length ∧ P (tbD (prod w A B)) C
theorem zw_zip (r c : List Int) : ((r.zip c).map fun p => D.int (p.1 + p.2)) = (List.zipWith (· + ·) r c).map .int := by
  rw [← List.map_uncurry_zip_eq_zipWith, List.map_map]; rfl
theorem law_product_ok {A B : List (List Int)} {m w : Nat} (WA : WF A m) (WB : WF B w) (fit : m = B.length) (kk : P (tbD (prod w A B)) C) : denF G i_law_product [tbD A, tbD B] C P := by
  refine ⟨rfl, ?_⟩
  have h0 : 0 < B.length := WB.h1
  have h2 := WB.h2
  have w2 := WB.w2
  have a2 := WA.h2
  have e0 : atI (B.map rD) 0 = some (rD (Row B 0)) := at_row (i := 0) h0
  simp_arith! [i_law_product, tbD, e0, rD, List.length_map, WB.rl h0, Int.toNat_natCast, rangeD_map]
  refine ⟨by omega, by omega, ?_⟩
  refine comp_mapL (fun k : Nat => .int (k : Int)) (fun k => .lst ((colL B k).map .int)) (by rw [List.length_range, sz]; omega) (fun k hk K kK => ?_) ?_
  · have hk := List.mem_range.mp hk
    try simp_arith! []
    refine comp_mapL rD (fun r => .int (cI r k)) (by rw [sz]; omega) (fun r hr K2 kK2 => ?_) ?_
    · simp_arith! [rD, row_get WB hr hk]
      exact kK2
    · have e : (B.map fun r => D.int (cI r k)) = (colL B k).map .int := by unfold colL; rw [List.map_map]; rfl
      try simp_arith! [e]
      exact kK
  try simp_arith! []
  refine comp_mapL rD (fun r => rD ((List.range w).map fun k => ms r (colL B k))) (by rw [sz]; omega) (fun r hr K kK => ?_) ?_
  · try simp_arith! []
    refine comp_mapL (fun k : Nat => .lst ((colL B k).map .int)) (fun k => .int (ms r (colL B k))) (by rw [List.length_range, sz]; omega) (fun k hk K2 kK2 => ?_) ?_
    · have hrl := WA.row r hr
      simp_arith! [rD, zipD_map]
      refine comp_mapL (fun p : Int × Int => .tup [.int p.1, .int p.2]) (fun p => .int (p.1 + p.2)) (by rw [List.length_zip, hrl, sz]; have := WA.w2; omega) (fun p _ K3 kK3 => ?_) ?_
      · try simp_arith! []
        exact kK3
      · rw [zw_zip]
        try simp_arith! []
        refine ⟨?_, kK2⟩
        intro q
        have hz : (List.zipWith (· + ·) r (colL B k)).length = 0 := by rw [q]; rfl
        rw [List.length_zipWith, hrl, colL_len, fit] at hz
        omega
    · have e : ((List.range w).map fun k => D.int (ms r (colL B k))) = ((List.range w).map fun k => ms r (colL B k)).map .int := by rw [List.map_map]; rfl
      try simp_arith! [e]
      exact kK
  · have e : (A.map fun r => rD ((List.range w).map fun k => ms r (colL B k))) = (prod w A B).map rD := by unfold prod; rw [List.map_map]; rfl
    try simp_arith! [e]
    exact ⟨C, sub_refl _, kk⟩
/-! ### powers -/
theorem check_square_ok (hs : Sp tb "size_of" 1 SizeR) (hn : 1 ≤ n) {t : List (List Int)} {w : Nat} (s : Sq w t) (kk : P .non C) : denF ⟨Gm tb n, ex⟩ icheck_square [tbD t] C P := by
  refine ⟨rfl, ?_⟩
  simp_arith! [icheck_square]
  refine hs n hn _ _ _ _ ⟨t, w, rfl, s.1, ?_⟩
  try simp_arith! [s.2]
  exact ⟨C, sub_refl _, kk⟩
def SquareR (ds : List D) (C : CM) (P : D → CM → Prop) : Prop := ∃ t w, ds = [tbD t] ∧ Sq w t ∧ P .non C
def oD : Option (List (List Int)) → D
  | none => .non
  | some t => tbD t
theorem oD_n : oD none = .non := rfl
theorem oD_s (t : List (List Int)) : oD (some t) = tbD t := rfl
theorem tbD_isNon (t : List (List Int)) : (tbD t).isNon = false := rfl
theorem pw_0 (w n : Nat) (f : Option (List (List Int))) (g : List (List Int)) : pw w n 0 f g = f := by cases n <;> rfl
theorem pw_s {w n many : Nat} (h : 0 < many) (f : Option (List (List Int))) (g : List (List Int)) : pw w (n + 1) many f g = pw w n (many / 2) (pstep w many f g) (prod w g g) := by
  show (if many = 0 then f else _) = _
  rw [if_neg (by omega)]
theorem step_sq {w many : Nat} {f : Option (List (List Int))} {g : List (List Int)} (sg : Sq w g) (hf : ∀ h, f = some h → Sq w h) : ∀ h, pstep w many f g = some h → Sq w h := by
  intro h e
  unfold pstep at e
  split at e
  · cases e
    cases f with
    | none => exact sg
    | some h => exact sq_prod (hf h rfl) sg
  · exact hf h e
theorem power_ok (h1 : Sp tb "check_square" 2 SquareR) (h2 : Sp tb "product" 4 ProdR) (hn : 4 ≤ n) {t h : List (List Int)} {w N : Nat} (s : Sq w t) (e : pw w N N none t = some h) (kk : P (tbD h) C) : denF ⟨Gm tb n, ex⟩ ipower [tbD t, .int (N : Nat)] C P := by
  refine ⟨rfl, ?_⟩
  simp_arith! [ipower]
  refine h1 n (by omega) _ _ _ _ ⟨t, w, rfl, s, ?_⟩
  try simp_arith! []
  refine whl_inv (m := N) (I := fun m ρ C' => ∃ (f : Option (List (List Int))) (g : List (List Int)) (fuel : Nat), ρ = [some (.dat (tbD t)), some (.dat (.int (m : Nat))), some (.dat (oD f)), some (.dat (tbD g))] ∧ C' = C ∧ Sq w g ∧ (∀ h, f = some h → Sq w h) ∧ m ≤ fuel ∧ pw w fuel m f g = some h) ⟨none, t, N, rfl, rfl, s, (fun _ q => by cases q), Nat.le_refl _, e⟩ (fun m ρ C1 ⟨f, g, fuel, hρ, hc, sg, hf, hm, hp⟩ nx knx => ?_)
  subst hρ hc
  by_cases hz : m = 0
  · subst hz
    have q0 : ¬ ((0 : Int) < ((0 : Nat) : Int)) := by omega
    rw [pw_0] at hp
    subst hp
    try simp_arith! [q0, decide_false]
    exact ⟨C1, sub_refl _, kk⟩
  · have q0 : (0 : Int) < ((m : Nat) : Int) := by omega
    obtain ⟨fl, rfl⟩ : ∃ k, fuel = k + 1 := ⟨fuel - 1, by omega⟩
    rw [pw_s (by omega)] at hp
    have ed : ((m : Nat) : Int) / 2 = ((m / 2 : Nat) : Int) := by omega
    -- the square, where there is one
    have fin : ∀ f', pstep w m f g = f' → (CDiv ((m : Nat) : Int) 2 ∧ if (0 : Int) < ((m / 2 : Nat) : Int) then Gm tb n "product" [tbD g, tbD g] C1 (fun d C' => nx [some (.dat (tbD t)), some (.dat (.int ((m / 2 : Nat) : Int))), some (.dat (oD f')), some (.dat d)] C') ex else nx [some (.dat (tbD t)), some (.dat (.int ((m / 2 : Nat) : Int))), some (.dat (oD f')), some (.dat (tbD g))] C1) := by
      intro f' ef
      subst ef
      refine ⟨⟨by decide, by decide⟩, ?_⟩
      split
      · exact h2 n (by omega) _ _ _ _ ⟨g, g, w, w, rfl, sg.1, sg.1, sg.2.symm, knx (m / 2) _ _ (by omega) ⟨_, _, fl, rfl, rfl, sq_prod sg sg, step_sq sg hf, by omega, hp⟩⟩
      · rename_i hq
        have hz2 : m / 2 = 0 := by omega
        refine knx (m / 2) _ _ (by omega) ⟨_, _, fl, rfl, rfl, sg, step_sq sg hf, by omega, ?_⟩
        rw [hz2, pw_0] at hp ⊢
        exact hp
    by_cases q : m % 2 = 1
    · have qi : ((m : Nat) : Int) % 2 = 1 := by omega
      cases f with
      | none =>
        have fin := fin (some g) (by unfold pstep; rw [if_pos q])
        try simp_arith! [q0, qi, oD_n, oD_s, ed, decide_true] at fin ⊢
        exact fin
      | some f =>
        have fin := fin (some (prod w f g)) (by unfold pstep; rw [if_pos q])
        try simp_arith! [q0, qi, oD_n, oD_s, ed, tbD_isNon, decide_true] at fin ⊢
        refine h2 n (by omega) _ _ _ _ ⟨f, g, w, w, rfl, (hf f rfl).1, sg.1, sg.2.symm, ?_⟩
        try simp_arith! [q0, qi, oD_n, oD_s, ed, decide_true] at fin ⊢
        exact fin
    · have qi : ¬ ((m : Nat) : Int) % 2 = 1 := by omega
      have fin := fin f (by unfold pstep; rw [if_neg q])
      try simp_arith! [q0, qi, oD_n, oD_s, ed, decide_true, decide_false] at fin ⊢
      exact fin
def PowR (ds : List D) (C : CM) (P : D → CM → Prop) : Prop := ∃ t h w N, ds = [tbD t, .int ((N : Nat) : Int)] ∧ Sq w t ∧ pw w N N none t = some h ∧ P (tbD h) C
theorem law_power_ok (h2 : Sp tb "_law_product" 1 ProdR) (hn : 1 ≤ n) {t h : List (List Int)} {w N : Nat} (s : Sq w t) (e : pw w N N none t = some h) (kk : P (tbD h) C) : denF ⟨Gm tb n, ex⟩ i_law_power [tbD t, .int (N : Nat)] C P := by
  refine ⟨rfl, ?_⟩
  simp_arith! [i_law_power]
  refine whl_inv (m := N) (I := fun m ρ C' => ∃ (f : Option (List (List Int))) (g : List (List Int)) (fuel : Nat), ρ = [some (.dat (tbD g)), some (.dat (.int (m : Nat))), some (.dat (oD f))] ∧ C' = C ∧ Sq w g ∧ (∀ h, f = some h → Sq w h) ∧ m ≤ fuel ∧ pw w fuel m f g = some h) ⟨none, t, N, rfl, rfl, s, (fun _ q => by cases q), Nat.le_refl _, e⟩ (fun m ρ C1 ⟨f, g, fuel, hρ, hc, sg, hf, hm, hp⟩ nx knx => ?_)
  subst hρ hc
  by_cases hz : m = 0
  · subst hz
    have q0 : ¬ ((0 : Int) < ((0 : Nat) : Int)) := by omega
    rw [pw_0] at hp
    subst hp
    try simp_arith! [q0, decide_false]
    exact ⟨C1, sub_refl _, kk⟩
  · have q0 : (0 : Int) < ((m : Nat) : Int) := by omega
    obtain ⟨fl, rfl⟩ : ∃ k, fuel = k + 1 := ⟨fuel - 1, by omega⟩
    rw [pw_s (by omega)] at hp
    have ed : ((m : Nat) : Int) / 2 = ((m / 2 : Nat) : Int) := by omega
    have fin : ∀ f', pstep w m f g = f' → Gm tb n "_law_product" [tbD g, tbD g] C1 (fun d C' => CDiv ((m : Nat) : Int) 2 ∧ nx [some (.dat d), some (.dat (.int ((m / 2 : Nat) : Int))), some (.dat (oD f'))] C') ex := by
      intro f' ef
      subst ef
      exact h2 n (by omega) _ _ _ _ ⟨g, g, w, w, rfl, sg.1, sg.1, sg.2.symm, ⟨by decide, by decide⟩, knx (m / 2) _ _ (by omega) ⟨_, _, fl, rfl, rfl, sq_prod sg sg, step_sq sg hf, by omega, hp⟩⟩
    by_cases q : m % 2 = 1
    · have qi : ((m : Nat) : Int) % 2 = 1 := by omega
      cases f with
      | none =>
        have fin := fin (some g) (by unfold pstep; rw [if_pos q])
        try simp_arith! [q0, qi, oD_n, oD_s, ed, decide_true] at fin ⊢
        exact fin
      | some f =>
        have fin := fin (some (prod w f g)) (by unfold pstep; rw [if_pos q])
        try simp_arith! [q0, qi, oD_n, oD_s, ed, tbD_isNon, decide_true] at fin ⊢
        refine h2 n (by omega) _ _ _ _ ⟨f, g, w, w, rfl, (hf f rfl).1, sg.1, sg.2.symm, ?_⟩
        try simp_arith! [q0, qi, oD_n, oD_s, ed, decide_true] at fin ⊢
        exact fin
    · have qi : ¬ ((m : Nat) : Int) % 2 = 1 := by omega
      have fin := fin f (by unfold pstep; rw [if_neg q])
      try simp_arith! [q0, qi, oD_n, oD_s, ed, decide_true, decide_false] at fin ⊢
      exact fin
end
end M61.MP

set_option Elab.async false
set_option linter.all false
set_option autoImplicit false
set_option maxRecDepth 100000
/-! PR: what repr shows of trees of numbers. -/
namespace M61.RP
open PySem PySem.Spec PyProof.Rows L2
mutual
/-- trees of numbers, truths, None; how long their text may be -/
def sh : D → Bool
  | .non => true
  | .bl _ => true
  | .int i => decide (i.natAbs < 10 ^ 100)
  | .str _ => false
  | .tup xs => shs xs
  | .lst xs => shs xs
  | .ref _ => false
  | .scr _ => false
  | .dic => false
def shs : List D → Bool
  | [] => true
  | x :: xs => sh x && shs xs
end
mutual
def cst : D → Nat
  | .non => 4
  | .bl _ => 5
  | .int _ => 101
  | .str _ => 0
  | .tup xs => csts xs + 3
  | .lst xs => csts xs + 3
  | .ref _ => 0
  | .scr _ => 0
  | .dic => 0
def csts : List D → Nat
  | [] => 0
  | x :: xs => cst x + 2 + csts xs
end
theorem shs_of : ∀ {xs : List D}, (∀ x ∈ xs, sh x = true) → shs xs = true
  | [], _ => rfl
  | x :: xs, h => by
    show (sh x && shs xs) = true
    rw [h x List.mem_cons_self, shs_of fun y hy => h y (List.mem_cons_of_mem _ hy)]; rfl
theorem shs_mem : ∀ {xs : List D}, shs xs = true → ∀ x ∈ xs, sh x = true
  | x :: xs, h, y, hy => by
    obtain ⟨h1, h2⟩ := Bool.and_eq_true_iff.mp (show (sh x && shs xs) = true from h)
    rcases List.mem_cons.mp hy with e | hy
    · rw [e]; exact h1
    · exact shs_mem h2 y hy
theorem csts_le : ∀ {xs : List D} {m : Nat}, (∀ x ∈ xs, cst x ≤ m) → csts xs ≤ xs.length * (m + 2)
  | [], m, _ => Nat.zero_le _
  | x :: xs, m, h => by
    have h1 := h x List.mem_cons_self
    have h2 := csts_le (xs := xs) (m := m) fun y hy => h y (List.mem_cons_of_mem _ hy)
    show cst x + 2 + csts xs ≤ (xs.length + 1) * (m + 2)
    rw [Nat.add_mul]; omega
theorem dict_all : ∀ xs : List D, (∀ x ∈ xs, x.py.hasDict = false) → PyData.hasDictAll (D.pys xs) = false
  | [], _ => rfl
  | x :: xs, h => by
    show (PyData.hasDict x.py || PyData.hasDictAll (D.pys xs)) = false
    rw [h x List.mem_cons_self, dict_all xs fun y hy => h y (List.mem_cons_of_mem _ hy)]; rfl
theorem showable_int {i : Int} (h : i.natAbs < 10 ^ 100) : (PyData.int i).showable = true := by
  show decide (i.natAbs.log2 < 1920) = true
  refine decide_eq_true ?_
  by_cases e : i.natAbs = 0
  · rw [e]; decide
  · exact (Nat.log2_lt e).mpr (Nat.lt_trans h (by decide +kernel))
mutual
theorem sh_pure : ∀ d : D, sh d = true → d.pure = true ∧ d.py.showable = true ∧ d.py.hasDict = false ∧ d.py.shown.length ≤ cst d ∧ ∀ c ∈ d.py.shown.cps.toList, c < 0x110000
  | .non, _ => ⟨rfl, rfl, rfl, Nat.le_refl 4, fun c hc => by
      rw [show (D.py .non) = PyData.none from rfl, PyData.shown_none] at hc
      have e : (("None" : String) : Str).cps.toList = [78, 111, 110, 101] := by decide
      rw [e] at hc; simp only [List.mem_cons, List.not_mem_nil, or_false] at hc; omega⟩
  | .bl b, _ => ⟨rfl, rfl, rfl, by cases b <;> decide, fun c hc => by
      rw [show (D.py (.bl b)) = PyData.bool b from rfl, PyData.shown_bool] at hc
      have e1 : (Str.ofString "False").cps.toList = [70, 97, 108, 115, 101] := by decide
      have e2 : (Str.ofString "True").cps.toList = [84, 114, 117, 101] := by decide
      cases b
      · have hc : c ∈ (Str.ofString "False").cps.toList := hc
        rw [e1] at hc; simp only [List.mem_cons, List.not_mem_nil, or_false] at hc; omega
      · have hc : c ∈ (Str.ofString "True").cps.toList := hc
        rw [e2] at hc; simp only [List.mem_cons, List.not_mem_nil, or_false] at hc; omega⟩
  | .int i, h => by
    have h : i.natAbs < 10 ^ 100 := of_decide_eq_true h
    refine ⟨rfl, showable_int h, rfl, ?_, fun c hc => ?_⟩
    · have := int_text_length_le10 (k := 100) (by decide) h
      show (PyData.shown (.int i)).length ≤ 101
      rw [PyData.shown_int]
      show (Str.ofString (toString i)).length ≤ 101
      rw [PySem.ofString_length]; exact this
    · by_cases q : c < 0x110000
      · exact q
      · exact absurd hc (shown_int_free' ⟨by omega, by omega⟩ i)
  | .tup xs, h => by
    obtain ⟨a1, a2, a3, a4, a5⟩ := shs_pure xs h
    refine ⟨a1, a2, a3, ?_, fun c hc => ?_⟩
    · show (tupleText (PyData.shownAll (D.pys xs))).length ≤ csts xs + 3
      have := tupleText_len_le (PyData.shownAll (D.pys xs))
      omega
    · have hc : c ∈ (PyData.tuple (D.pys xs)).shown.cps.toList := hc
      rw [PyData.shown_tuple, mem_cps_append, mem_cps_append, mem_join, signs_lparen, signs_sep] at hc
      rcases hc with (hc | ⟨t, ht, hc⟩ | ⟨_, hc⟩) | hc
      · simp only [List.mem_cons, List.not_mem_nil, or_false] at hc; omega
      · exact a5 t ht c hc
      · simp only [List.mem_cons, List.not_mem_nil, or_false] at hc; omega
      · split at hc
        · have e : ((",)" : String) : Str).cps.toList = [44, 41] := by decide
          rw [e] at hc; simp only [List.mem_cons, List.not_mem_nil, or_false] at hc; omega
        · have e : ((")" : String) : Str).cps.toList = [41] := by decide
          rw [e] at hc; simp only [List.mem_cons, List.not_mem_nil, or_false] at hc; omega
  | .lst xs, h => by
    obtain ⟨a1, a2, a3, a4, a5⟩ := shs_pure xs h
    refine ⟨a1, a2, a3, ?_, fun c hc => ?_⟩
    · show (listText (PyData.shownAll (D.pys xs))).length ≤ csts xs + 3
      have := listText_len_le (PyData.shownAll (D.pys xs))
      omega
    · have hc : c ∈ (PyData.list (D.pys xs)).shown.cps.toList := hc
      rw [PyData.shown_list, mem_cps_append, mem_cps_append, mem_join, signs_lbrack, signs_rbrack, signs_sep] at hc
      rcases hc with (hc | ⟨t, ht, hc⟩ | ⟨_, hc⟩) | hc
      · simp only [List.mem_cons, List.not_mem_nil, or_false] at hc; omega
      · exact a5 t ht c hc
      · simp only [List.mem_cons, List.not_mem_nil, or_false] at hc; omega
      · simp only [List.mem_cons, List.not_mem_nil, or_false] at hc; omega
  | .str _, h => by cases h
  | .ref _, h => by cases h
  | .scr _, h => by cases h
  | .dic, h => by cases h
theorem shs_pure : ∀ xs : List D, shs xs = true → D.pures xs = true ∧ PyData.showableAll (D.pys xs) = true ∧ PyData.hasDictAll (D.pys xs) = false ∧
    ((PyData.shownAll (D.pys xs)).map (·.length)).sum + 2 * (PyData.shownAll (D.pys xs)).length ≤ csts xs ∧ ∀ t ∈ PyData.shownAll (D.pys xs), ∀ c ∈ t.cps.toList, c < 0x110000
  | [], _ => ⟨rfl, rfl, rfl, Nat.le_refl 0, fun t ht => by cases ht⟩
  | x :: xs, h => by
    obtain ⟨h1, h2⟩ := Bool.and_eq_true_iff.mp (show (sh x && shs xs) = true from h)
    obtain ⟨a1, a2, a3, a4, a5⟩ := sh_pure x h1
    obtain ⟨b1, b2, b3, b4, b5⟩ := shs_pure xs h2
    refine ⟨?_, ?_, ?_, ?_, ?_⟩
    · show (D.pure x && D.pures xs) = true; rw [a1, b1]; rfl
    · show (PyData.showable x.py && PyData.showableAll (D.pys xs)) = true; rw [a2, b2]; rfl
    · show (PyData.hasDict x.py || PyData.hasDictAll (D.pys xs)) = false; rw [a3, b3]; rfl
    · show (((x.py.shown :: PyData.shownAll (D.pys xs)).map (·.length)).sum + 2 * (x.py.shown :: PyData.shownAll (D.pys xs)).length) ≤ cst x + 2 + csts xs
      rw [List.map_cons, List.sum_cons, List.length_cons]; omega
    · intro t ht
      have ht : t ∈ x.py.shown :: PyData.shownAll (D.pys xs) := ht
      rcases List.mem_cons.mp ht with e | ht
      · rw [e]; exact a5
      · exact b5 t ht
end
/-- what repr tells -/
@[reducible] def rp (d : D) : Str := d.py.shown
structure Rok (d : D) : Prop where
  s : sh d = true
  e : d.dep ≤ 64
  z : cst d ≤ 16777216
theorem repr_use {d : D} {C : CM} {P : D → Prop} (h : Rok d) (k : P (.str (rp d))) : bltR C .repr [d] P := by
  obtain ⟨a1, a2, a3, a4, a5⟩ := sh_pure d h.s
  rw [repr_r]
  exact ⟨a1, a2, a3, by rw [py_dep]; exact h.e, by rw [sz]; exact Nat.le_trans a4 h.z, k⟩
theorem repr_go {d : D} {Q : Prop} (h : Rok d) (k : Q) : d.pure = true ∧ d.py.showable = true ∧ d.py.hasDict = false ∧ d.py.depth ≤ 64 ∧ d.py.shown.length ≤ 16777216 ∧ Q := by
  obtain ⟨a1, a2, a3, a4, a5⟩ := sh_pure d h.s
  exact ⟨a1, a2, a3, by rw [py_dep]; exact h.e, Nat.le_trans a4 h.z, k⟩
theorem rp_Cmp {d : D} (h : Rok d) : (D.str (rp d)).Cmp := by
  obtain ⟨a1, a2, a3, a4, a5⟩ := sh_pure d h.s
  refine cmp_of rfl (Nat.zero_le _) ?_
  show PyData.canLay0 (.str d.py.shown) = true
  show PyData.strOk d.py.shown = true
  unfold PyData.strOk
  rw [Array.all_eq_true_iff_forall_mem]
  intro c hc
  exact decide_eq_true (a5 c (Array.mem_toList_iff.mpr hc))
theorem str_self (x : Str) : (D.str x).eqv (.str x) = true := by
  show (x == x) = true
  exact beq_self_eq_true x
end M61.RP

set_option Elab.async false
set_option linter.all false
set_option autoImplicit false
set_option maxRecDepth 100000
/-! P21: tables of k31's deck. -/
namespace M61.B31
open PySem PySem.Spec PyProof.Rows L2
local macro_rules
  | `(tactic| simp_arith! [$ls,*] $[$loc:location]?) => `(tactic| try simp only [wipeR_cons, wipeR_nil, eq_self, denE, denT, denEs, denO, denC, denI, bindT_nm, bindT_tp, bindT_tl, bindTs_nil, bindTs_cons, varD_0, varD_s, varM_own0, varM_dat0, varM_s, varO_0, varO_s, varL_own0, varL_ref0, varL_s, sz, cp1, cp2, cp3, cp4, cp5, cp6, cp7, cp8, cp9, cp10, cp11, cp12, cp15, cp18, add_i, add_t, add_l, add_s, add_b, sub_b, sub_i, mul_i, mul_t, mul_l, fdiv_i, mod_i, pow_i, shl_i, eq_r, ne_r, inn_t, nin_t, inn_l, nin_l, lt_r, lt_tt, le_r, gt_r, ge_r, is_n, isn_n, is_b, isn_b, isNon_n, isNon_i, isNon_t, isNon_l, isNon_b, isNon_s, tru_n, tru_b, tru_i, tru_t, tru_l, ix_t, ix_l, ix_c, ix_r, cellAt_l, cellL_l, lstD_l, lstD_r, sqD_t, sqD_l, sl_t, sl_l, sl_c, sl_r, rev_t, rev_l, len_t, len_l, len_c, len_r, tup_t, tup_l, tup_r, sum_t, sum_l, sum_r, min_t, min_l, max_t, max_l, min_2, max_2, min_3, repr_r, str_ri, abs_i, int_i, int_b, all_l, any_l, ty_bb, ty_bi, ty_bn, ty_bt, ty_ss, ty_sn, ty_si, ty_sb, ty_ii, ty_ib, ty_in, ty_it, ty_tt, ty_tn, ty_ti, ty_tb, ty_ll, ty_lt, ty_is, ty_il, ty_bs, ty_blst, ty_st, ty_sl, ty_ts, ty_tl, ty_ln, ty_li, ty_lb, ty_ls, intsOf_map, boolsOf_map, pair_Cmp, int_Cmp, bl_Cmp, non_Cmp, ints_Cmp, intst_Cmp, eqv_int, eqv_bl, eqv_ints, eqv_intst, List.map_cons, List.map_nil, List.replicate_succ, List.replicate_zero, List.cons_append, List.nil_append, List.set_cons_zero, List.set_cons_succ, List.length_cons, List.length_nil, List.getElem?_cons_zero, List.getElem?_cons_succ, List.eraseIdx_cons_zero, Nat.reduceSub, Nat.reduceAdd, Nat.reduceLT, Nat.reduceLeDiff, Nat.reducePow, Nat.reduceEqDiff, Nat.reduceMul, Int.reducePow, Int.reduceToNat, Int.reduceMul, Int.reduceAdd, Int.reduceSub, Int.reduceNeg, Int.reduceLT, Int.reduceLE, Int.reduceEq, Int.reduceBEq, Int.reduceBNe, zero_add', not_true_eq_false, not_false_eq_true, Bool.true_eq_false, false_and, and_false, true_and, and_true, exists_eq_left', exists_and_left, Option.some.injEq, Cell.lst.injEq, Cell.dct.injEq, if_pos_true, reduceIte, Bool.false_eq_true, decide_true, decide_false, Bool.not_true, Bool.not_false, Bool.not_eq_true', Bool.and_true, Bool.true_and, decide_eq_true_eq, decide_eq_false_iff_not, ite_self, List.isEmpty_cons, List.isEmpty_nil, ss_nil', ss_cons', s_set', s_own', s_setF', s_unp', s_par2', par2K_e, s_par3', par3K_e, s_app', s_ext', extK_e, s_exp', s_csub', csubK_e, s_dset', dsetK_e, s_capp', cappK_e, s_aug', augK_a, augK_s, s_oset', osetK_e, s_ife', s_for', s_forc', forcK_e, s_whl', s_ret', s_ret0', s_pass', s_brk', s_cnt', l_comp', l_compc', compcK_e, l_lit', l_cat', l_rvd', l_lrv', l_ls2', l_list', l_srt', srtK_e, l_srr', srrK_e, l_lrg1', l_lrg2', lrgK_e, l_rep', repK_e, setM_nil, setM_cons, Int.toNat_natCast, List.length_map, exists_eq_left, $ls,*] $[$loc]?)
local macro_rules
  | `(tactic| simp_all_arith! [$ls,*]) => `(tactic| ((try simp only [wipeR_cons, wipeR_nil, eq_self, denE, denT, denEs, denO, denC, denI, bindT_nm, bindT_tp, bindT_tl, bindTs_nil, bindTs_cons, varD_0, varD_s, varM_own0, varM_dat0, varM_s, varO_0, varO_s, varL_own0, varL_ref0, varL_s, sz, cp1, cp2, cp3, cp4, cp5, cp6, cp7, cp8, cp9, cp10, cp11, cp12, cp15, cp18, add_i, add_t, add_l, add_s, add_b, sub_b, sub_i, mul_i, mul_t, mul_l, fdiv_i, mod_i, pow_i, shl_i, eq_r, ne_r, inn_t, nin_t, inn_l, nin_l, lt_r, lt_tt, le_r, gt_r, ge_r, is_n, isn_n, is_b, isn_b, isNon_n, isNon_i, isNon_t, isNon_l, isNon_b, isNon_s, tru_n, tru_b, tru_i, tru_t, tru_l, ix_t, ix_l, ix_c, ix_r, cellAt_l, cellL_l, lstD_l, lstD_r, sqD_t, sqD_l, sl_t, sl_l, sl_c, sl_r, rev_t, rev_l, len_t, len_l, len_c, len_r, tup_t, tup_l, tup_r, sum_t, sum_l, sum_r, min_t, min_l, max_t, max_l, min_2, max_2, min_3, repr_r, str_ri, abs_i, int_i, int_b, all_l, any_l, ty_bb, ty_bi, ty_bn, ty_bt, ty_ss, ty_sn, ty_si, ty_sb, ty_ii, ty_ib, ty_in, ty_it, ty_tt, ty_tn, ty_ti, ty_tb, ty_ll, ty_lt, ty_is, ty_il, ty_bs, ty_blst, ty_st, ty_sl, ty_ts, ty_tl, ty_ln, ty_li, ty_lb, ty_ls, intsOf_map, boolsOf_map, pair_Cmp, int_Cmp, bl_Cmp, non_Cmp, ints_Cmp, intst_Cmp, eqv_int, eqv_bl, eqv_ints, eqv_intst, List.map_cons, List.map_nil, List.replicate_succ, List.replicate_zero, List.cons_append, List.nil_append, List.set_cons_zero, List.set_cons_succ, List.length_cons, List.length_nil, List.getElem?_cons_zero, List.getElem?_cons_succ, List.eraseIdx_cons_zero, Nat.reduceSub, Nat.reduceAdd, Nat.reduceLT, Nat.reduceLeDiff, Nat.reducePow, Nat.reduceEqDiff, Nat.reduceMul, Int.reducePow, Int.reduceToNat, Int.reduceMul, Int.reduceAdd, Int.reduceSub, Int.reduceNeg, Int.reduceLT, Int.reduceLE, Int.reduceEq, Int.reduceBEq, Int.reduceBNe, zero_add', not_true_eq_false, not_false_eq_true, Bool.true_eq_false, false_and, and_false, true_and, and_true, exists_eq_left', exists_and_left, Option.some.injEq, Cell.lst.injEq, Cell.dct.injEq, if_pos_true, reduceIte, Bool.false_eq_true, decide_true, decide_false, Bool.not_true, Bool.not_false, Bool.not_eq_true', Bool.and_true, Bool.true_and, decide_eq_true_eq, decide_eq_false_iff_not, ite_self, List.isEmpty_cons, List.isEmpty_nil, ss_nil', ss_cons', s_set', s_own', s_setF', s_unp', s_par2', par2K_e, s_par3', par3K_e, s_app', s_ext', extK_e, s_exp', s_csub', csubK_e, s_dset', dsetK_e, s_capp', cappK_e, s_aug', augK_a, augK_s, s_oset', osetK_e, s_ife', s_for', s_forc', forcK_e, s_whl', s_ret', s_ret0', s_pass', s_brk', s_cnt', l_comp', l_compc', compcK_e, l_lit', l_cat', l_rvd', l_lrv', l_ls2', l_list', l_srt', srtK_e, l_srr', srrK_e, l_lrg1', l_lrg2', lrgK_e, l_rep', repK_e, setM_nil, setM_cons, Int.toNat_natCast, List.length_map, exists_eq_left, $ls,*]); (repeat ((with_reducible (first | refine blk_of ?_ | refine turn_of ?_ | refine tst_of ?_)); (try simp only [wipeR_cons, wipeR_nil, eq_self, denE, denT, denEs, denO, denC, denI, bindT_nm, bindT_tp, bindT_tl, bindTs_nil, bindTs_cons, varD_0, varD_s, varM_own0, varM_dat0, varM_s, varO_0, varO_s, varL_own0, varL_ref0, varL_s, sz, cp1, cp2, cp3, cp4, cp5, cp6, cp7, cp8, cp9, cp10, cp11, cp12, cp15, cp18, add_i, add_t, add_l, add_s, add_b, sub_b, sub_i, mul_i, mul_t, mul_l, fdiv_i, mod_i, pow_i, shl_i, eq_r, ne_r, inn_t, nin_t, inn_l, nin_l, lt_r, lt_tt, le_r, gt_r, ge_r, is_n, isn_n, is_b, isn_b, isNon_n, isNon_i, isNon_t, isNon_l, isNon_b, isNon_s, tru_n, tru_b, tru_i, tru_t, tru_l, ix_t, ix_l, ix_c, ix_r, cellAt_l, cellL_l, lstD_l, lstD_r, sqD_t, sqD_l, sl_t, sl_l, sl_c, sl_r, rev_t, rev_l, len_t, len_l, len_c, len_r, tup_t, tup_l, tup_r, sum_t, sum_l, sum_r, min_t, min_l, max_t, max_l, min_2, max_2, min_3, repr_r, str_ri, abs_i, int_i, int_b, all_l, any_l, ty_bb, ty_bi, ty_bn, ty_bt, ty_ss, ty_sn, ty_si, ty_sb, ty_ii, ty_ib, ty_in, ty_it, ty_tt, ty_tn, ty_ti, ty_tb, ty_ll, ty_lt, ty_is, ty_il, ty_bs, ty_blst, ty_st, ty_sl, ty_ts, ty_tl, ty_ln, ty_li, ty_lb, ty_ls, intsOf_map, boolsOf_map, pair_Cmp, int_Cmp, bl_Cmp, non_Cmp, ints_Cmp, intst_Cmp, eqv_int, eqv_bl, eqv_ints, eqv_intst, List.map_cons, List.map_nil, List.replicate_succ, List.replicate_zero, List.cons_append, List.nil_append, List.set_cons_zero, List.set_cons_succ, List.length_cons, List.length_nil, List.getElem?_cons_zero, List.getElem?_cons_succ, List.eraseIdx_cons_zero, Nat.reduceSub, Nat.reduceAdd, Nat.reduceLT, Nat.reduceLeDiff, Nat.reducePow, Nat.reduceEqDiff, Nat.reduceMul, Int.reducePow, Int.reduceToNat, Int.reduceMul, Int.reduceAdd, Int.reduceSub, Int.reduceNeg, Int.reduceLT, Int.reduceLE, Int.reduceEq, Int.reduceBEq, Int.reduceBNe, zero_add', not_true_eq_false, not_false_eq_true, Bool.true_eq_false, false_and, and_false, true_and, and_true, exists_eq_left', exists_and_left, Option.some.injEq, Cell.lst.injEq, Cell.dct.injEq, if_pos_true, reduceIte, Bool.false_eq_true, decide_true, decide_false, Bool.not_true, Bool.not_false, Bool.not_eq_true', Bool.and_true, Bool.true_and, decide_eq_true_eq, decide_eq_false_iff_not, ite_self, List.isEmpty_cons, List.isEmpty_nil, ss_nil', ss_cons', s_set', s_own', s_setF', s_unp', s_par2', par2K_e, s_par3', par3K_e, s_app', s_ext', extK_e, s_exp', s_csub', csubK_e, s_dset', dsetK_e, s_capp', cappK_e, s_aug', augK_a, augK_s, s_oset', osetK_e, s_ife', s_for', s_forc', forcK_e, s_whl', s_ret', s_ret0', s_pass', s_brk', s_cnt', l_comp', l_compc', compcK_e, l_lit', l_cat', l_rvd', l_lrv', l_ls2', l_list', l_srt', srtK_e, l_srr', srrK_e, l_lrg1', l_lrg2', lrgK_e, l_rep', repK_e, setM_nil, setM_cons, Int.toNat_natCast, List.length_map, exists_eq_left, $ls,*])))))
open M61.k69 (Row cI WF Row_mem rD tbD at_row at_cell)
open M61.MP
def i_law_far : Def := ⟨2, 4,
  (.cons (.set 2 (.call "_law_draw" (.cons (.var 0) (.cons (.bin .pow (.int 10) (.int 6)) .nil))))
  (.cons (.set 3 (.bin .add (.bin .mul (.call "_law_draw" (.cons (.var 0) (.cons (.int 1000) .nil))) (.bin .pow (.int 10) (.int 6))) (.var 2)))
  (.cons (.ife (.cmp .eq (.call "_law_draw" (.cons (.var 0) (.cons (.int 8) .nil))) (.int 3)) (.cons (.ret (.var 1))
  .nil) .nil)
  (.cons (.ret (.bin .mod (.var 3) (.bin .add (.var 1) (.int 1))))
  .nil))))⟩
def i_law_number : Def := ⟨2, 4,
  (.cons (.set 2 (.ix (.frz (.lit (.cons (.int 1) (.cons (.neg (.int 1)) .nil)))) (.call "_law_draw" (.cons (.var 0) (.cons (.int 2) .nil)))))
  (.cons (.set 3 (.call "_law_draw" (.cons (.var 0) (.cons (.int 7) .nil))))
  (.cons (.ife (.cmp .eq (.var 1) (.int 0)) (.cons (.ret (.int 0))
  .nil) .nil)
  (.cons (.ife (.cmp .eq (.var 1) (.int 1)) (.cons (.ret (.bin .sub (.var 3) (.int 3)))
  .nil) .nil)
  (.cons (.ife (.cmp .eq (.var 1) (.int 2)) (.cons (.ret (.bin .mul (.var 2) (.bin .sub (.bin .pow (.int 10) (.int 9)) (.bin .mod (.var 3) (.int 3)))))
  .nil) .nil)
  (.cons (.ret (.bin .mul (.var 2) (.call "_law_far" (.cons (.var 0) (.cons (.bin .pow (.int 10) (.int 9)) .nil)))))
  .nil))))))⟩
def i_law_size : Def := ⟨2, 3,
  (.cons (.set 2 (.call "_law_draw" (.cons (.var 0) (.cons (.int 6) .nil))))
  (.cons (.ife (.cmp .eq (.var 1) (.int 0)) (.cons (.ret (.bin .add (.int 1) (.var 2)))
  .nil) .nil)
  (.cons (.ret (.bin .sub (.int 12) (.bin .mul (.var 2) (.call "_law_draw" (.cons (.var 0) (.cons (.int 2) .nil))))))
  .nil)))⟩
def i_law_any_table : Def := ⟨3, 9,
  (.cons (.set 3 (.ix (.frz (.lit (.cons (.int 0) (.cons (.int 1) (.cons (.int 1) (.cons (.int 2) (.cons (.int 3) (.cons (.int 3) (.cons (.int 1) (.cons (.int 3) .nil)))))))))) (.call "_law_draw" (.cons (.var 0) (.cons (.int 8) .nil)))))
  (.cons (.set 4 (.call "_law_draw" (.cons (.var 0) (.cons (.int 4) .nil))))
  (.cons (.own 5 (.lit .nil))
  (.cons (.for (.nm 6) (.rng1 (.var 1)) (.cons (.set 7 (.blt .tuple (.cons (.frz (.comp [8] (.call "_law_number" (.cons (.var 0) (.cons (.var 3) .nil))) (.nm 8) (.rng1 (.var 2)) .no)) .nil)))
  (.cons (.ife (.and (.cmp .eq (.var 4) (.int 1)) (.and (.one 5) (.cmp .eq (.call "_law_draw" (.cons (.var 0) (.cons (.int 2) .nil))) (.int 1)))) (.cons (.set 7 (.oix 5 (.call "_law_draw" (.cons (.var 0) (.cons (.olen 5) .nil)))))
  .nil) .nil)
  (.cons (.ife (.cmp .eq (.var 4) (.int 2)) (.cons (.set 7 (.blt .tuple (.cons (.frz (.comp [8] (.ix (.var 7) (.bin .mul (.bin .fdiv (.var 8) (.int 2)) (.int 2))) (.nm 8) (.rng1 (.var 2)) .no)) .nil)))
  .nil) .nil)
  (.cons (.app 5 (.var 7))
  .nil)))))
  (.cons (.ret (.blt .tuple (.cons (.mv 5) .nil)))
  .nil)))))⟩
def i_law_due : Def := ⟨2, 10,
  (.cons (.own 2 (.lit .nil))
  (.cons (.own 3 (.lit .nil))
  (.cons (.for (.nm 4) (.seq (.var 0)) (.cons (.own 5 (.lit .nil))
  (.cons (.own 6 (.lit .nil))
  (.cons (.for (.nm 7) (.rng1 (.blt .len (.cons (.ix (.var 1) (.int 0)) .nil))) (.cons (.setF 8 (.comp [9] (.bin .add (.ix (.var 4) (.var 9)) (.ix (.ix (.var 1) (.var 9)) (.var 7))) (.nm 9) (.rng1 (.blt .len (.cons (.var 4) .nil))) .no))
  (.cons (.app 5 (.blt .min (.cons (.var 8) .nil)))
  (.cons (.app 6 (.indx (.var 8) (.blt .min (.cons (.var 8) .nil))))
  .nil))))
  (.cons (.app 2 (.blt .tuple (.cons (.mv 5) .nil)))
  (.cons (.app 3 (.blt .tuple (.cons (.mv 6) .nil)))
  .nil))))))
  (.cons (.ret (.tup (.cons (.blt .tuple (.cons (.mv 2) .nil)) (.cons (.blt .tuple (.cons (.mv 3) .nil)) .nil))))
  .nil))))⟩
/-- what stands behind a statement, folded -/
theorem cut_tail {G : Ctx} {s : S} {ss : Ss} {A : AEnds} {ρ : Rho} {C : CM} (tl : ∀ N : Rho → CM → Prop, (∀ ρ' C', blk G ss A ρ' C' → N ρ' C') → denS G s { A with nx := N } ρ C) : blk G (.cons s ss) A ρ C := tl (blk G ss A) fun _ _ h => h
def Bd (B : Int) (t : List (List Int)) : Prop := ∀ r ∈ t, ∀ x ∈ r, -B ≤ x ∧ x ≤ B
section
variable {tb : List (String × Def)} {n : Nat} {a b : Addr} {C : CM} {P : D → CM → Prop} {ex : Exc → CM → Prop} {G : Ctx}
def FarR (ds : List D) (C : CM) (P : D → CM → Prop) : Prop := ∃ a b v, ds = [.ref a, .int v] ∧ 0 ≤ v ∧ v ≤ 1000000000 ∧ Deck a b C ∧ ∀ x C', 0 ≤ x → x ≤ v → Deck a b C' → P (.int x) C'
theorem far_ok (hd : Sp tb "_law_draw" 1 DrawR) (hn : 1 ≤ n) {v : Int} (v0 : 0 ≤ v) (v1 : v ≤ 1000000000) (hD : Deck a b C) (k : ∀ x C', 0 ≤ x → x ≤ v → Deck a b C' → P (.int x) C') : denF ⟨Gm tb n, ex⟩ i_law_far [.ref a, .int v] C P := by
  refine ⟨rfl, ?_⟩
  simp_all_arith! [i_law_far]
  refine use_draw hd hn hD (by decide) (by decide) fun x C1 _ _ hD1 _ => ?_
  simp_all_arith! []
  refine use_draw hd hn hD1 (by decide) (by decide) fun y C2 _ _ hD2 _ => ?_
  simp_all_arith! []
  refine ⟨B8.cmul_r _ _ (by decide), use_draw hd hn hD2 (by decide) (by decide) fun z C3 _ _ hD3 _ => ?_⟩
  simp_all_arith! []
  split
  · simp_all_arith! []
    exact ⟨C3, sub_refl _, k _ _ v0 (Int.le_refl _) hD3⟩
  · simp_all_arith! []
    exact ⟨by omega, C3, sub_refl _, k _ _ (Int.emod_nonneg _ (by omega)) (by have := Int.emod_lt_of_pos (y * 1000000 + x) (show 0 < v + 1 by omega); omega) hD3⟩
def NumR (ds : List D) (C : CM) (P : D → CM → Prop) : Prop := ∃ a b v, ds = [.ref a, .int v] ∧ Deck a b C ∧ ∀ x C', -1000000000 ≤ x → x ≤ 1000000000 → Deck a b C' → P (.int x) C'
theorem number_ok (hd : Sp tb "_law_draw" 1 DrawR) (hf : Sp tb "_law_far" 2 FarR) (hn : 2 ≤ n) {v : Int} (hD : Deck a b C) (k : ∀ x C', -1000000000 ≤ x → x ≤ 1000000000 → Deck a b C' → P (.int x) C') : denF ⟨Gm tb n, ex⟩ i_law_number [.ref a, .int v] C P := by
  refine ⟨rfl, ?_⟩
  simp_all_arith! [i_law_number]
  refine use_draw hd (by omega) hD (by decide) (by decide) fun x C1 x0 x1 hD1 _ => ?_
  obtain ⟨s, hs, es⟩ : ∃ s : Int, (s = 1 ∨ s = -1) ∧ atI [D.int 1, D.int (-1)] x = some (.int s) := by
    obtain rfl | rfl : x = 0 ∨ x = 1 := by omega
    · exact ⟨1, .inl rfl, rfl⟩
    · exact ⟨-1, .inr rfl, rfl⟩
  simp_all_arith! [es]
  refine use_draw hd (by omega) hD1 (by decide) (by decide) fun y C2 y0 y1 hD2 _ => ?_
  simp_all_arith! []
  split
  · simp_all_arith! []
    exact ⟨C2, sub_refl _, k _ _ (by decide) (by decide) hD2⟩
  simp_all_arith! []
  split
  · simp_all_arith! []
    exact ⟨C2, sub_refl _, k _ _ (by omega) (by omega) hD2⟩
  simp_all_arith! []
  split
  · simp_all_arith! []
    refine ⟨B8.cmul_r _ _ (by omega), C2, sub_refl _, ?_⟩
    rcases hs with rfl | rfl
    · exact k _ _ (by omega) (by omega) hD2
    · exact k _ _ (by omega) (by omega) hD2
  simp_all_arith! []
  refine hf n hn _ _ _ _ ⟨a, b, 1000000000, rfl, by decide, by decide, hD2, fun z C3 z0 z1 hD3 => ?_⟩
  simp_all_arith! []
  refine ⟨cmul_l _ _ (by omega), C3, sub_refl _, ?_⟩
  rcases hs with rfl | rfl
  · exact k _ _ (by omega) (by omega) hD3
  · exact k _ _ (by omega) (by omega) hD3
def SizeOfR (ds : List D) (C : CM) (P : D → CM → Prop) : Prop := ∃ a b g, ds = [.ref a, .int g] ∧ Deck a b C ∧ ∀ (s : Nat) C', 1 ≤ s → s ≤ 12 → (g = 0 → s ≤ 6) → Deck a b C' → P (.int (s : Int)) C'
theorem size_ok (hd : Sp tb "_law_draw" 1 DrawR) (hn : 1 ≤ n) {g : Int} (hD : Deck a b C) (k : ∀ (s : Nat) C', 1 ≤ s → s ≤ 12 → (g = 0 → s ≤ 6) → Deck a b C' → P (.int (s : Int)) C') : denF ⟨Gm tb n, ex⟩ i_law_size [.ref a, .int g] C P := by
  refine ⟨rfl, ?_⟩
  simp_all_arith! [i_law_size]
  refine use_draw hd hn hD (by decide) (by decide) fun x C1 x0 x1 hD1 _ => ?_
  simp_all_arith! []
  split
  · simp_all_arith! []
    have h := k (1 + x).toNat C1 (by omega) (by omega) (fun _ => by omega) hD1
    rw [Int.toNat_of_nonneg (by omega)] at h
    exact ⟨C1, sub_refl _, h⟩
  · rename_i hg
    simp_all_arith! []
    refine use_draw hd hn hD1 (by decide) (by decide) fun y C2 y0 y1 hD2 _ => ?_
    simp_all_arith! []
    have hxy : 0 ≤ x * y ∧ x * y ≤ 5 := by
      obtain rfl | rfl : y = 0 ∨ y = 1 := by omega
      · omega
      · omega
    have h := k (12 - x * y).toNat C2 (by omega) (by omega) (fun q => absurd q hg) hD2
    rw [Int.toNat_of_nonneg (by omega)] at h
    exact ⟨cmul_l _ _ (by omega), C2, sub_refl _, h⟩
def AnyR (ds : List D) (C : CM) (P : D → CM → Prop) : Prop := ∃ a b, ∃ r s : Nat, ds = [.ref a, .int (r : Int), .int (s : Int)] ∧ 1 ≤ r ∧ r ≤ 12 ∧ 1 ≤ s ∧ s ≤ 12 ∧ Deck a b C ∧ ∀ t C', WF t s → t.length = r → Bd 1000000000 t → Deck a b C' → P (tbD t) C'
theorem rows_Cmp {t : List (List Int)} (h : ∀ r ∈ t, r.length ≤ 1000000) : (D.lst (t.map rD)).Cmp := by
  have hp : B8.pqs (t.map rD) = true := B8.pqs_of fun x hx => by
    obtain ⟨r, hr, rfl⟩ := List.mem_map.mp hx
    exact rD_pq (h r hr)
  have hd : D.deps (t.map rD) ≤ 1 := B8.deps_of fun x hx => by
    obtain ⟨r, hr, rfl⟩ := List.mem_map.mp hx
    exact Nat.le_of_eq (rD_dep r)
  exact cmp_of (B8.pqs_pure _ hp).1 (by show D.deps _ + 1 ≤ 64; omega) (B8.pqs_pure _ hp).2
theorem int_mem {z : D} {xs : List Int} (h : z ∈ xs.map D.int) : ∃ i ∈ xs, z = .int i := by
  obtain ⟨i, hi, e⟩ := List.mem_map.mp h
  exact ⟨i, hi, e.symm⟩
theorem any_table_ok (hd : Sp tb "_law_draw" 1 DrawR) (hm : Sp tb "_law_number" 3 NumR) (hn : 3 ≤ n) {r s : Nat} (r1 : 1 ≤ r) (r2 : r ≤ 12) (s1 : 1 ≤ s) (s2 : s ≤ 12) (hD : Deck a b C)
    (k : ∀ t C', WF t s → t.length = r → Bd 1000000000 t → Deck a b C' → P (tbD t) C') : denF ⟨Gm tb n, ex⟩ i_law_any_table [.ref a, .int (r : Int), .int (s : Int)] C P := by
  refine ⟨rfl, ?_⟩
  simp_all_arith! [i_law_any_table]
  refine use_draw hd (by omega) hD (by decide) (by decide) fun x C1 x0 x1 hD1 _ => ?_
  obtain ⟨z, mz, _, ez⟩ := atI_in (xs := [0, 1, 1, 2, 3, 3, 1, 3].map D.int) (i := x) x0 (by simp only [List.map_cons, List.map_nil, List.length_cons, List.length_nil]; omega)
  obtain ⟨kd, hkd, rfl⟩ := int_mem mz
  simp only [List.map_cons, List.map_nil] at ez
  simp_all_arith! [ez]
  refine use_draw hd (by omega) hD1 (by decide) (by decide) fun al C2 al0 al1 hD2 _ => ?_
  simp_all_arith! [rangeD_map]
  refine ⟨by omega, by omega, ?_⟩
  refine for_m (fun i : Nat => .int (i : Int)) [5, 6, 7, 8] (fun done ys C' => ∃ (t : List (List Int)) (x6 x7 x8 : Option Dv), ys = [some (.own (t.map rD)), x6, x7, x8] ∧ t.length = done.length ∧ (∀ r ∈ t, r.length = s) ∧ Bd 1000000000 t ∧ Deck a b C') [some (.own ([].map rD)), none, none, none] rfl
    ⟨[], _, _, _, rfl, rfl, (by intro z hz; cases hz), (by intro z hz; cases hz), hD2⟩ (fun done j rest ys C3 e ⟨t, x6, x7, x8, hy, hl, hw, hb, hD3⟩ nx knx => ?_) fun ys C3 ⟨t, x6, x7, x8, hy, hl, hw, hb, hD3⟩ => ?_
  · subst hy
    have hdl : done.length < r := by
      have := congrArg List.length e
      rw [List.length_range, List.length_append, List.length_cons] at this; omega
    simp_arith! []
    refine blk_of ?_
    simp_arith! [rangeD_map]
    refine ⟨by omega, by omega, ?_⟩
    refine comp_all (fun C => Deck a b C) (fun x : Int => -1000000000 ≤ x ∧ x ≤ 1000000000) .int (by rw [List.length_map, List.length_range, sz]; omega) hD3 (fun d hdm C4 hD4 K kK => ?_) fun row C4 hrl hrb hD4 => ?_
    · simp_all_arith! []
      refine hm n (by omega) _ _ _ _ ⟨a, b, kd, rfl, hD4, fun x C5 b0 b1 hD5 => ?_⟩
      exact kK _ _ ⟨b0, b1⟩ hD5
    rw [List.length_map, List.length_range] at hrl
    simp_arith! []
    -- a row is taken in
    refine cut_tail fun N hN => ?_
    have t2 : ∀ (row : List Int) C', row.length = s → (∀ x ∈ row, -1000000000 ≤ x ∧ x ≤ 1000000000) → Deck a b C' → N (setM [some (.dat (.ref a)), some (.dat (.int (r : Int))), some (.dat (.int (s : Int))), some (.dat (.int kd)), some (.dat (.int al)), none, none, none, none] [5, 6, 7, 8] [some (.own (t.map rD)), some (.dat (.int (j : Int))), some (.dat (rD row)), x8]) C' := fun row C' hrl hrb hD' => hN _ _ (by
      refine cut_tail fun N2 hN2 => ?_
      have t3 : ∀ (row : List Int) x8, row.length = s → (∀ x ∈ row, -1000000000 ≤ x ∧ x ≤ 1000000000) → N2 (setM [some (.dat (.ref a)), some (.dat (.int (r : Int))), some (.dat (.int (s : Int))), some (.dat (.int kd)), some (.dat (.int al)), none, none, none, none] [5, 6, 7, 8] [some (.own (t.map rD)), some (.dat (.int (j : Int))), some (.dat (rD row)), x8]) C' := fun row x8 hrl hrb => hN2 _ _ (by
        simp_all_arith! [List.length_map]
        refine ⟨by omega, ?_⟩
        simp_all_arith! []
        have em : t.map rD ++ [rD row] = (t ++ [row]).map rD := by rw [List.map_append]; rfl
        rw [em]
        refine knx [_, _, _, _] C' ⟨_, _, _, _, rfl, by rw [List.length_append, List.length_append, hl]; rfl, fun z hz => ?_, fun z hz => ?_, hD'⟩
        · rcases List.mem_append.mp hz with q | q
          · exact hw z q
          · rw [List.mem_singleton.mp q]; exact hrl
        · rcases List.mem_append.mp hz with q | q
          · exact hb z q
          · rw [List.mem_singleton.mp q]; exact hrb)
      simp_all_arith! []
      split
      · simp_all_arith! [rangeD_map]
        refine ⟨by omega, by omega, ?_⟩
        refine comp_mapL (fun i : Nat => .int (i : Int)) (fun i => .int (cI row (i / 2 * 2))) (by rw [List.length_range, sz]; omega) (fun i hi K kK => ?_) ?_
        · have hi := List.mem_range.mp hi
          have ei : ((i : Nat) : Int) / 2 * 2 = ((i / 2 * 2 : Nat) : Int) := by omega
          simp_all_arith! [ei, rD, at_cell (show i / 2 * 2 < row.length by omega)]
          exact ⟨⟨by decide, by decide⟩, B8.cmul_r _ _ (by decide), kK⟩
        · have h := t3 ((List.range s).map fun i => cI row (i / 2 * 2)) x8 (by rw [List.length_map, List.length_range]) fun x hx => by
            obtain ⟨i, hi, rfl⟩ := List.mem_map.mp hx
            have hi := List.mem_range.mp hi
            have hlt : i / 2 * 2 < row.length := by omega
            refine hrb _ ?_
            unfold cI
            rw [List.getElem?_eq_getElem hlt]
            exact List.getElem_mem hlt
          unfold rD at h
          rw [List.map_map] at h
          simp_all_arith! []
          exact h
      · simp_all_arith! []
        exact t3 row x8 hrl hrb)
    simp_all_arith! []
    split
    · simp_all_arith! []
      refine ⟨rows_Cmp fun r hr => by rw [hw r hr]; omega, ?_⟩
      split
      · rename_i hne
        have ht : 0 < t.length := by
          cases t with
          | nil => exact absurd hne (by decide)
          | cons => exact Nat.zero_lt_succ _
        simp_all_arith! []
        refine use_draw hd (by omega) hD4 (by decide) (by decide) fun u C5 u0 u1 hD5 _ => ?_
        simp_all_arith! []
        split
        · simp_all_arith! []
          refine use_draw hd (by omega) hD5 (by omega) (by omega) fun v C6 v0 v1 hD6 _ => ?_
          have ev : atI (t.map rD) v = some (rD (Row t v.toNat)) := by
            have := at_row (t := t) (i := v.toNat) (by omega)
            rwa [Int.toNat_of_nonneg v0] at this
          have hmr := Row_mem (t := t) (i := v.toNat) (by omega)
          simp_all_arith! [ev]
          exact t2 _ C6 (hw _ hmr) (hb _ hmr) hD6
        · simp_all_arith! []
          exact t2 row C5 hrl hrb hD5
      · simp_all_arith! []
        exact t2 row C4 hrl hrb hD4
    · simp_all_arith! []
      exact t2 row C4 hrl hrb hD4
  · subst hy
    simp_all_arith! []
    refine ⟨C3, sub_refl _, k t C3 ⟨by rw [hl, List.length_range]; exact r1, by rw [hl, List.length_range]; exact r2, s1, s2, hw⟩ (by rw [hl, List.length_range]) hb hD3⟩
end
end M61.B31

set_option Elab.async false
set_option linter.all false
set_option autoImplicit false
set_option maxRecDepth 100000
/-! P22: products with their mids. -/
namespace M61.B31
open PySem PySem.Spec PyProof.Rows L2
local macro_rules
  | `(tactic| simp_arith! [$ls,*] $[$loc:location]?) => `(tactic| try simp only [wipeR_cons, wipeR_nil, eq_self, denE, denT, denEs, denO, denC, denI, bindT_nm, bindT_tp, bindT_tl, bindTs_nil, bindTs_cons, varD_0, varD_s, varM_own0, varM_dat0, varM_s, varO_0, varO_s, varL_own0, varL_ref0, varL_s, sz, cp1, cp2, cp3, cp4, cp5, cp6, cp7, cp8, cp9, cp10, cp11, cp12, cp15, cp18, add_i, add_t, add_l, add_s, add_b, sub_b, sub_i, mul_i, mul_t, mul_l, fdiv_i, mod_i, pow_i, shl_i, eq_r, ne_r, inn_t, nin_t, inn_l, nin_l, lt_r, lt_tt, le_r, gt_r, ge_r, is_n, isn_n, is_b, isn_b, isNon_n, isNon_i, isNon_t, isNon_l, isNon_b, isNon_s, tru_n, tru_b, tru_i, tru_t, tru_l, ix_t, ix_l, ix_c, ix_r, cellAt_l, cellL_l, lstD_l, lstD_r, sqD_t, sqD_l, sl_t, sl_l, sl_c, sl_r, rev_t, rev_l, len_t, len_l, len_c, len_r, tup_t, tup_l, tup_r, sum_t, sum_l, sum_r, min_t, min_l, max_t, max_l, min_2, max_2, min_3, repr_r, str_ri, abs_i, int_i, int_b, all_l, any_l, ty_bb, ty_bi, ty_bn, ty_bt, ty_ss, ty_sn, ty_si, ty_sb, ty_ii, ty_ib, ty_in, ty_it, ty_tt, ty_tn, ty_ti, ty_tb, ty_ll, ty_lt, ty_is, ty_il, ty_bs, ty_blst, ty_st, ty_sl, ty_ts, ty_tl, ty_ln, ty_li, ty_lb, ty_ls, intsOf_map, boolsOf_map, pair_Cmp, int_Cmp, bl_Cmp, non_Cmp, ints_Cmp, intst_Cmp, eqv_int, eqv_bl, eqv_ints, eqv_intst, List.map_cons, List.map_nil, List.replicate_succ, List.replicate_zero, List.cons_append, List.nil_append, List.set_cons_zero, List.set_cons_succ, List.length_cons, List.length_nil, List.getElem?_cons_zero, List.getElem?_cons_succ, List.eraseIdx_cons_zero, Nat.reduceSub, Nat.reduceAdd, Nat.reduceLT, Nat.reduceLeDiff, Nat.reducePow, Nat.reduceEqDiff, Nat.reduceMul, Int.reducePow, Int.reduceToNat, Int.reduceMul, Int.reduceAdd, Int.reduceSub, Int.reduceNeg, Int.reduceLT, Int.reduceLE, Int.reduceEq, Int.reduceBEq, Int.reduceBNe, zero_add', not_true_eq_false, not_false_eq_true, Bool.true_eq_false, false_and, and_false, true_and, and_true, exists_eq_left', exists_and_left, Option.some.injEq, Cell.lst.injEq, Cell.dct.injEq, if_pos_true, reduceIte, Bool.false_eq_true, decide_true, decide_false, Bool.not_true, Bool.not_false, Bool.not_eq_true', Bool.and_true, Bool.true_and, decide_eq_true_eq, decide_eq_false_iff_not, ite_self, List.isEmpty_cons, List.isEmpty_nil, ss_nil', ss_cons', s_set', s_own', s_setF', s_unp', s_par2', par2K_e, s_par3', par3K_e, s_app', s_ext', extK_e, s_exp', s_csub', csubK_e, s_dset', dsetK_e, s_capp', cappK_e, s_aug', augK_a, augK_s, s_oset', osetK_e, s_ife', s_for', s_forc', forcK_e, s_whl', s_ret', s_ret0', s_pass', s_brk', s_cnt', l_comp', l_compc', compcK_e, l_lit', l_cat', l_rvd', l_lrv', l_ls2', l_list', l_srt', srtK_e, l_srr', srrK_e, l_lrg1', l_lrg2', lrgK_e, l_rep', repK_e, setM_nil, setM_cons, Int.toNat_natCast, List.length_map, exists_eq_left, $ls,*] $[$loc]?)
local macro_rules
  | `(tactic| simp_all_arith! [$ls,*]) => `(tactic| ((try simp only [wipeR_cons, wipeR_nil, eq_self, denE, denT, denEs, denO, denC, denI, bindT_nm, bindT_tp, bindT_tl, bindTs_nil, bindTs_cons, varD_0, varD_s, varM_own0, varM_dat0, varM_s, varO_0, varO_s, varL_own0, varL_ref0, varL_s, sz, cp1, cp2, cp3, cp4, cp5, cp6, cp7, cp8, cp9, cp10, cp11, cp12, cp15, cp18, add_i, add_t, add_l, add_s, add_b, sub_b, sub_i, mul_i, mul_t, mul_l, fdiv_i, mod_i, pow_i, shl_i, eq_r, ne_r, inn_t, nin_t, inn_l, nin_l, lt_r, lt_tt, le_r, gt_r, ge_r, is_n, isn_n, is_b, isn_b, isNon_n, isNon_i, isNon_t, isNon_l, isNon_b, isNon_s, tru_n, tru_b, tru_i, tru_t, tru_l, ix_t, ix_l, ix_c, ix_r, cellAt_l, cellL_l, lstD_l, lstD_r, sqD_t, sqD_l, sl_t, sl_l, sl_c, sl_r, rev_t, rev_l, len_t, len_l, len_c, len_r, tup_t, tup_l, tup_r, sum_t, sum_l, sum_r, min_t, min_l, max_t, max_l, min_2, max_2, min_3, repr_r, str_ri, abs_i, int_i, int_b, all_l, any_l, ty_bb, ty_bi, ty_bn, ty_bt, ty_ss, ty_sn, ty_si, ty_sb, ty_ii, ty_ib, ty_in, ty_it, ty_tt, ty_tn, ty_ti, ty_tb, ty_ll, ty_lt, ty_is, ty_il, ty_bs, ty_blst, ty_st, ty_sl, ty_ts, ty_tl, ty_ln, ty_li, ty_lb, ty_ls, intsOf_map, boolsOf_map, pair_Cmp, int_Cmp, bl_Cmp, non_Cmp, ints_Cmp, intst_Cmp, eqv_int, eqv_bl, eqv_ints, eqv_intst, List.map_cons, List.map_nil, List.replicate_succ, List.replicate_zero, List.cons_append, List.nil_append, List.set_cons_zero, List.set_cons_succ, List.length_cons, List.length_nil, List.getElem?_cons_zero, List.getElem?_cons_succ, List.eraseIdx_cons_zero, Nat.reduceSub, Nat.reduceAdd, Nat.reduceLT, Nat.reduceLeDiff, Nat.reducePow, Nat.reduceEqDiff, Nat.reduceMul, Int.reducePow, Int.reduceToNat, Int.reduceMul, Int.reduceAdd, Int.reduceSub, Int.reduceNeg, Int.reduceLT, Int.reduceLE, Int.reduceEq, Int.reduceBEq, Int.reduceBNe, zero_add', not_true_eq_false, not_false_eq_true, Bool.true_eq_false, false_and, and_false, true_and, and_true, exists_eq_left', exists_and_left, Option.some.injEq, Cell.lst.injEq, Cell.dct.injEq, if_pos_true, reduceIte, Bool.false_eq_true, decide_true, decide_false, Bool.not_true, Bool.not_false, Bool.not_eq_true', Bool.and_true, Bool.true_and, decide_eq_true_eq, decide_eq_false_iff_not, ite_self, List.isEmpty_cons, List.isEmpty_nil, ss_nil', ss_cons', s_set', s_own', s_setF', s_unp', s_par2', par2K_e, s_par3', par3K_e, s_app', s_ext', extK_e, s_exp', s_csub', csubK_e, s_dset', dsetK_e, s_capp', cappK_e, s_aug', augK_a, augK_s, s_oset', osetK_e, s_ife', s_for', s_forc', forcK_e, s_whl', s_ret', s_ret0', s_pass', s_brk', s_cnt', l_comp', l_compc', compcK_e, l_lit', l_cat', l_rvd', l_lrv', l_ls2', l_list', l_srt', srtK_e, l_srr', srrK_e, l_lrg1', l_lrg2', lrgK_e, l_rep', repK_e, setM_nil, setM_cons, Int.toNat_natCast, List.length_map, exists_eq_left, $ls,*]); (repeat ((with_reducible (first | refine blk_of ?_ | refine turn_of ?_ | refine tst_of ?_)); (try simp only [wipeR_cons, wipeR_nil, eq_self, denE, denT, denEs, denO, denC, denI, bindT_nm, bindT_tp, bindT_tl, bindTs_nil, bindTs_cons, varD_0, varD_s, varM_own0, varM_dat0, varM_s, varO_0, varO_s, varL_own0, varL_ref0, varL_s, sz, cp1, cp2, cp3, cp4, cp5, cp6, cp7, cp8, cp9, cp10, cp11, cp12, cp15, cp18, add_i, add_t, add_l, add_s, add_b, sub_b, sub_i, mul_i, mul_t, mul_l, fdiv_i, mod_i, pow_i, shl_i, eq_r, ne_r, inn_t, nin_t, inn_l, nin_l, lt_r, lt_tt, le_r, gt_r, ge_r, is_n, isn_n, is_b, isn_b, isNon_n, isNon_i, isNon_t, isNon_l, isNon_b, isNon_s, tru_n, tru_b, tru_i, tru_t, tru_l, ix_t, ix_l, ix_c, ix_r, cellAt_l, cellL_l, lstD_l, lstD_r, sqD_t, sqD_l, sl_t, sl_l, sl_c, sl_r, rev_t, rev_l, len_t, len_l, len_c, len_r, tup_t, tup_l, tup_r, sum_t, sum_l, sum_r, min_t, min_l, max_t, max_l, min_2, max_2, min_3, repr_r, str_ri, abs_i, int_i, int_b, all_l, any_l, ty_bb, ty_bi, ty_bn, ty_bt, ty_ss, ty_sn, ty_si, ty_sb, ty_ii, ty_ib, ty_in, ty_it, ty_tt, ty_tn, ty_ti, ty_tb, ty_ll, ty_lt, ty_is, ty_il, ty_bs, ty_blst, ty_st, ty_sl, ty_ts, ty_tl, ty_ln, ty_li, ty_lb, ty_ls, intsOf_map, boolsOf_map, pair_Cmp, int_Cmp, bl_Cmp, non_Cmp, ints_Cmp, intst_Cmp, eqv_int, eqv_bl, eqv_ints, eqv_intst, List.map_cons, List.map_nil, List.replicate_succ, List.replicate_zero, List.cons_append, List.nil_append, List.set_cons_zero, List.set_cons_succ, List.length_cons, List.length_nil, List.getElem?_cons_zero, List.getElem?_cons_succ, List.eraseIdx_cons_zero, Nat.reduceSub, Nat.reduceAdd, Nat.reduceLT, Nat.reduceLeDiff, Nat.reducePow, Nat.reduceEqDiff, Nat.reduceMul, Int.reducePow, Int.reduceToNat, Int.reduceMul, Int.reduceAdd, Int.reduceSub, Int.reduceNeg, Int.reduceLT, Int.reduceLE, Int.reduceEq, Int.reduceBEq, Int.reduceBNe, zero_add', not_true_eq_false, not_false_eq_true, Bool.true_eq_false, false_and, and_false, true_and, and_true, exists_eq_left', exists_and_left, Option.some.injEq, Cell.lst.injEq, Cell.dct.injEq, if_pos_true, reduceIte, Bool.false_eq_true, decide_true, decide_false, Bool.not_true, Bool.not_false, Bool.not_eq_true', Bool.and_true, Bool.true_and, decide_eq_true_eq, decide_eq_false_iff_not, ite_self, List.isEmpty_cons, List.isEmpty_nil, ss_nil', ss_cons', s_set', s_own', s_setF', s_unp', s_par2', par2K_e, s_par3', par3K_e, s_app', s_ext', extK_e, s_exp', s_csub', csubK_e, s_dset', dsetK_e, s_capp', cappK_e, s_aug', augK_a, augK_s, s_oset', osetK_e, s_ife', s_for', s_forc', forcK_e, s_whl', s_ret', s_ret0', s_pass', s_brk', s_cnt', l_comp', l_compc', compcK_e, l_lit', l_cat', l_rvd', l_lrv', l_ls2', l_list', l_srt', srtK_e, l_srr', srrK_e, l_lrg1', l_lrg2', lrgK_e, l_rep', repK_e, setM_nil, setM_cons, Int.toNat_natCast, List.length_map, exists_eq_left, $ls,*])))))
open M61.k69 (Row cI WF Row_mem rD tbD at_row at_cell)
open M61.MP
/-- the first least of a row and a column together -/
structure FL (r c : List Int) (f : Nat) : Prop where
  h : f < r.length
  m : ∀ j, j < r.length → cI r f + cI c f ≤ cI r j + cI c j
  u : ∀ j, j < f → cI r f + cI c f < cI r j + cI c j
theorem FL.uniq {r c : List Int} {f g : Nat} (h1 : FL r c f) (h2 : FL r c g) : f = g := by
  rcases Nat.lt_trichotomy f g with h | h | h
  · have := h2.u f h; have := h1.m g h2.h; omega
  · exact h
  · have := h1.u g h; have := h2.m f h1.h; omega
open Classical in
noncomputable def mi (r c : List Int) : Nat := if h : ∃ f, FL r c f then h.choose else 0
theorem mi_eq {r c : List Int} {f : Nat} (h : FL r c f) : mi r c = f := by
  have hx : ∃ f, FL r c f := ⟨f, h⟩
  unfold mi
  rw [dif_pos hx]
  exact hx.choose_spec.uniq h
theorem FL.ms {r c : List Int} {f : Nat} (e : r.length = c.length) (h : FL r c f) : ms r c = cI r f + cI c f := ms_eq e h.h h.m
noncomputable def midt (n : Nat) (A B : List (List Int)) : List (List Int) := A.map fun r => (List.range n).map fun k => (mi r (colL B k) : Int)
theorem firstAt_ints (m : Int) : ∀ L : List Int, m ∈ L → ∃ j, firstAt (.int m) (L.map .int) = some j ∧ L[j]? = some m ∧ ∀ i, i < j → L[i]? ≠ some m
  | x :: L, h => by
    by_cases q : x = m
    · refine ⟨0, ?_, by rw [q]; rfl, fun i hi => absurd hi (by omega)⟩
      rw [List.map_cons]
      show (if (D.int x).eqv (.int m) = true then some 0 else _) = _
      rw [eqv_int, decide_eq_true q]; rfl
    · rcases List.mem_cons.mp h with e | h
      · exact absurd e.symm q
      · obtain ⟨j, h1, h2, h3⟩ := firstAt_ints m L h
        refine ⟨j + 1, ?_, by rw [List.getElem?_cons_succ]; exact h2, fun i hi => ?_⟩
        · rw [List.map_cons]
          show (if (D.int x).eqv (.int m) = true then some 0 else (firstAt (.int m) (L.map .int)).map (· + 1)) = _
          rw [eqv_int, decide_eq_false q, h1]; rfl
        · cases i with
          | zero => rw [List.getElem?_cons_zero]; intro e; exact q (Option.some.inj e)
          | succ i => rw [List.getElem?_cons_succ]; exact h3 i (by omega)
theorem zw_len {r c : List Int} (e : r.length = c.length) : (List.zipWith (· + ·) r c).length = r.length := by rw [List.length_zipWith]; omega
theorem first_zw {r c : List Int} (e : r.length = c.length) (h : 0 < r.length) : firstAt (.int (ms r c)) ((List.zipWith (· + ·) r c).map .int) = some (mi r c) := by
  obtain ⟨j0, hj0, e0⟩ := ms_at e h
  have hm : ms r c ∈ List.zipWith (· + ·) r c := by
    have := zw_get (c := c) (j := j0) hj0 (by omega)
    rw [e0]
    exact List.mem_of_getElem? this
  obtain ⟨j, h1, h2, h3⟩ := firstAt_ints _ _ hm
  have hj : j < r.length := by
    have := (List.getElem?_eq_some_iff.mp h2).1
    rw [zw_len e] at this; exact this
  rw [zw_get hj (by omega)] at h2
  have h2 := Option.some.inj h2
  rw [h1, mi_eq (f := j) ⟨hj, fun i hi => by rw [h2]; exact ms_le e hi, fun i hi => ?_⟩]
  have := h3 i hi
  rw [zw_get (by omega) (by omega)] at this
  have hle := ms_le e (show i < r.length by omega)
  rw [h2]
  rcases Int.lt_or_eq_of_le hle with q | q
  · exact q
  · exact absurd (by rw [← q]) this
theorem fl_ex {r c : List Int} (e : r.length = c.length) (h : 0 < r.length) : FL r c (mi r c) := by
  have hx : ∃ f, FL r c f := by
    obtain ⟨j0, hj0, e0⟩ := ms_at e h
    have hm : ms r c ∈ List.zipWith (· + ·) r c := by
      have := zw_get (c := c) (j := j0) hj0 (by omega)
      rw [e0]
      exact List.mem_of_getElem? this
    obtain ⟨j, h1, h2, h3⟩ := firstAt_ints _ _ hm
    have hj : j < r.length := by
      have := (List.getElem?_eq_some_iff.mp h2).1
      rw [zw_len e] at this; exact this
    rw [zw_get hj (by omega)] at h2
    have h2 := Option.some.inj h2
    refine ⟨j, hj, fun i hi => by rw [h2]; exact ms_le e hi, fun i hi => ?_⟩
    have := h3 i hi
    rw [zw_get (by omega) (by omega)] at this
    have hle := ms_le e (show i < r.length by omega)
    rw [h2]
    rcases Int.lt_or_eq_of_le hle with q | q
    · exact q
    · exact absurd (by rw [← q]) this
  unfold mi
  rw [dif_pos hx]
  exact hx.choose_spec
theorem midt_wf {A B : List (List Int)} {m n : Nat} (WA : WF A m) (n1 : 1 ≤ n) (n2 : n ≤ 12) : WF (midt n A B) n := by
  unfold midt
  refine ⟨by rw [List.length_map]; exact WA.h1, by rw [List.length_map]; exact WA.h2, n1, n2, fun r hr => ?_⟩
  obtain ⟨r, _, rfl⟩ := List.mem_map.mp hr
  rw [List.length_map, List.length_range]
theorem midt_bd {A B : List (List Int)} {m n : Nat} (WA : WF A m) (fit : m = B.length) : Bd 12 (midt n A B) := fun r hr x hx => by
  unfold midt at hr
  obtain ⟨r, h0, rfl⟩ := List.mem_map.mp hr
  obtain ⟨k, hk, rfl⟩ := List.mem_map.mp hx
  have e : r.length = (colL B k).length := by rw [WA.row r h0, fit, colL_len]
  have := (fl_ex e (by rw [WA.row r h0]; exact WA.w1)).h
  rw [WA.row r h0] at this
  have := WA.w2
  omega
/-! ### bounds -/
theorem Bd.mono {X Y : Int} {t : List (List Int)} (h : Bd X t) (q : X ≤ Y) : Bd Y t := fun r hr x hx => by have := h r hr x hx; omega
theorem Bd.at {X : Int} {t : List (List Int)} {w i k : Nat} (h : Bd X t) (W : WF t w) (hi : i < t.length) (hk : k < w) : -X ≤ cI (Row t i) k ∧ cI (Row t i) k ≤ X := by
  refine h _ (Row_mem hi) _ ?_
  have hl : k < (Row t i).length := by rw [W.rl hi]; exact hk
  unfold cI
  rw [List.getElem?_eq_getElem hl]
  exact List.getElem_mem hl
theorem Bd.cell {X : Int} {r : List Int} {k : Nat} (h : ∀ x ∈ r, -X ≤ x ∧ x ≤ X) (hk : k < r.length) : -X ≤ cI r k ∧ cI r k ≤ X := by
  refine h _ ?_
  unfold cI
  rw [List.getElem?_eq_getElem hk]
  exact List.getElem_mem hk
theorem prod_bd {X Y : Int} {A B : List (List Int)} {m w : Nat} (WA : WF A m) (WB : WF B w) (fit : m = B.length) (hA : Bd X A) (hB : Bd Y B) : Bd (X + Y) (prod w A B) := fun r hr x hx => by
  unfold prod at hr
  obtain ⟨r, h0, rfl⟩ := List.mem_map.mp hr
  obtain ⟨k, hk0, rfl⟩ := List.mem_map.mp hx
  have hk := List.mem_range.mp hk0
  have e : r.length = (colL B k).length := by rw [WA.row r h0, fit, colL_len]
  obtain ⟨j, hj, ej⟩ := ms_at e (by rw [WA.row r h0]; exact WA.w1)
  have h1 := Bd.cell (hA r h0) hj
  have hjB : j < B.length := by rw [← fit, ← WA.row r h0]; exact hj
  have h2 := hB.at WB hjB hk
  rw [ej, colL_at hjB]
  omega
theorem pw_bd {w : Nat} : ∀ (n many : Nat) (f : Option (List (List Int))) (g h : List (List Int)) (X Y : Int), 0 ≤ Y → many ≤ n → Sq w g → (∀ z, f = some z → Sq w z ∧ Bd X z) → Bd Y g → pw w n many f g = some h → (0 ≤ X ∨ f = none) → Bd ((if f = none then 0 else X) + many * Y) h
  | 0, many, f, g, h, X, Y, hY, hm, sg, hf, hg, e, _ => by
    have : many = 0 := by omega
    subst this
    rw [pw_0] at e
    rw [e, if_neg (by simp)]
    have := (hf h e).2
    simpa using this
  | n + 1, many, f, g, h, X, Y, hY, hm, sg, hf, hg, e, hX => by
    by_cases hz : many = 0
    · subst hz
      rw [pw_0] at e
      rw [e, if_neg (by simp)]
      have := (hf h e).2
      simpa using this
    · rw [pw_s (by omega)] at e
      have hg2 : Bd (Y + Y) (prod w g g) := prod_bd sg.1 sg.1 sg.2.symm hg hg
      have hdm : (2 : Int) * ((many / 2 : Nat) : Int) + ((many % 2 : Nat) : Int) = (many : Int) := by omega
      have key : ((many / 2 : Nat) : Int) * (Y + Y) + ((many % 2 : Nat) : Int) * Y = (many : Int) * Y := by
        rw [← hdm, Int.add_mul, Int.mul_add]
        have : (2 : Int) * ((many / 2 : Nat) : Int) * Y = ((many / 2 : Nat) : Int) * Y + ((many / 2 : Nat) : Int) * Y := by
          rw [Int.mul_assoc]; omega
        omega
      unfold pstep at e
      by_cases q : many % 2 = 1
      · rw [if_pos q] at e
        rw [q] at key
        cases f with
        | none =>
          have := pw_bd n (many / 2) (some g) (prod w g g) h Y (Y + Y) (by omega) (by omega) (sq_prod sg sg) (fun z hz => by cases hz; exact ⟨sg, hg⟩) hg2 e (.inl hY)
          rw [if_neg (by simp)] at this
          rw [if_pos rfl]
          exact this.mono (by omega)
        | some f =>
          have hX : 0 ≤ X := hX.elim id (fun q => by cases q)
          have hb := hf f rfl
          have := pw_bd n (many / 2) (some (prod w f g)) (prod w g g) h (X + Y) (Y + Y) (by omega) (by omega) (sq_prod sg sg) (fun z hz => by cases hz; exact ⟨sq_prod hb.1 sg, prod_bd hb.1.1 sg.1 sg.2.symm hb.2 hg⟩) hg2 e (.inl (by omega))
          rw [if_neg (by simp)] at this
          rw [if_neg (by simp)]
          exact this.mono (by omega)
      · rw [if_neg q] at e
        have q0 : many % 2 = 0 := by omega
        rw [q0] at key
        have := pw_bd n (many / 2) f (prod w g g) h X (Y + Y) (by omega) (by omega) (sq_prod sg sg) hf hg2 e hX
        exact this.mono (by omega)
/-- a power, its bounds -/
theorem pow_ex {w N : Nat} {t : List (List Int)} {X : Int} (hN : 1 ≤ N) (hX : 0 ≤ X) (s : Sq w t) (hb : Bd X t) : ∃ h, pw w N N none t = some h ∧ Sq w h ∧ Bd (N * X) h := by
  obtain ⟨h, e, sh⟩ := pw_sq (w := w) N N none t (Nat.le_refl _) (.inl hN) (fun _ q => by cases q) s
  have := pw_bd N N none t h 0 X hX (Nat.le_refl _) s (fun _ q => by cases q) hb e (.inr rfl)
  rw [if_pos rfl, Int.zero_add] at this
  exact ⟨h, e, sh, this⟩
theorem tb_Rok {t : List (List Int)} {w : Nat} {X : Int} (W : WF t w) (h : Bd X t) (hX : X < 10 ^ 100) : RP.Rok (tbD t) := by
  have hr : ∀ r ∈ t, RP.sh (rD r) = true ∧ RP.cst (rD r) ≤ 1300 := fun r hr => by
    refine ⟨RP.shs_of fun x hx => ?_, ?_⟩
    · obtain ⟨i, hi, rfl⟩ := List.mem_map.mp hx
      have := h r hr i hi
      exact decide_eq_true (by omega)
    · show RP.csts (r.map .int) + 3 ≤ 1300
      have h1 := RP.csts_le (xs := r.map D.int) (m := 101) fun x hx => by
        obtain ⟨i, hi, rfl⟩ := List.mem_map.mp hx
        exact Nat.le_refl _
      rw [List.length_map, W.row r hr] at h1
      have := W.w2
      omega
  refine ⟨RP.shs_of fun x hx => ?_, by have := tbD_dep t; omega, ?_⟩
  · obtain ⟨r, hm, rfl⟩ := List.mem_map.mp hx
    exact (hr r hm).1
  · show RP.csts (t.map rD) + 3 ≤ _
    have h1 := RP.csts_le (xs := t.map rD) (m := 1300) fun x hx => by
      obtain ⟨r, hm, rfl⟩ := List.mem_map.mp hx
      exact (hr r hm).2
    rw [List.length_map] at h1
    have := W.h2
    omega
section
variable {tb : List (String × Def)} {n : Nat} {a b : Addr} {C : CM} {P : D → CM → Prop} {ex : Exc → CM → Prop} {G : Ctx}
def imids : Def := ⟨2, 4,
  (.cons (.ret (.blt .tuple (.cons (.frz (.comp [2] (.blt .tuple (.cons (.frz (.comp [3] (.ix (.var 3) (.int 0)) (.nm 3) (.seq (.var 2)) .no)) .nil)) (.nm 2) (.seq (.call "all_leasts" (.cons (.var 0) (.cons (.var 1) .nil)))) .no)) .nil)))
  .nil)⟩
theorem first_least_ok2 {r c : List Int} (e : r.length = c.length) (h1 : 1 ≤ r.length) (h2 : r.length ≤ 12) (kk : P (.tup [.int (mi r c : Int), .int (ms r c)]) C) : denF G ifirst_least [rD r, rD c] C P := by
  refine ⟨rfl, ?_⟩
  have e1 : ((r.length : Int) - 1).toNat = r.length - 1 := by omega
  simp_all_arith! [ifirst_least, rD, List.length_map, e1, M61.B8.range1_map]
  refine ⟨⟨by omega, by omega, by omega, by omega⟩, ?_⟩
  refine for_invL (fun j : Nat => .int ((j + 1 : Nat) : Int)) (xs := List.range (r.length - 1)) (I := fun done ρ C' => ∃ (f : Nat) (x3 : Option Dv), ρ = [some (.dat (.tup (r.map .int))), some (.dat (.tup (c.map .int))), some (.dat (.int (f : Int))), x3] ∧ C' = C ∧ f < r.length ∧ f ≤ done.length ∧ (∀ j, j ≤ done.length → cI r f + cI c f ≤ cI r j + cI c j) ∧ ∀ j, j < f → cI r f + cI c f < cI r j + cI c j) ⟨0, _, rfl, rfl, by omega, by simp, fun j hj => by
    have : j = 0 := by simpa using hj
    subst this; exact Int.le_refl _, fun j hj => absurd hj (by omega)⟩ (fun done x rest ρ C1 e2 ⟨f, x3, hρ, hc, hf, hfd, hm, hu⟩ nx knx => ?_) fun ρ C1 ⟨f, x3, hρ, hc, hf, hfd, hm, hu⟩ => ?_
  · subst hρ hc
    have hx : x = done.length ∧ done.length + 1 < r.length := by
      have hl : (List.range (r.length - 1)).length = done.length + (rest.length + 1) := by rw [e2, List.length_append, List.length_cons]
      rw [List.length_range] at hl
      have : (List.range (r.length - 1))[done.length]? = some x := by rw [e2, List.getElem?_append_right (Nat.le_refl _), Nat.sub_self]; rfl
      rw [List.getElem?_range (by omega)] at this
      exact ⟨(Option.some.inj this).symm, by omega⟩
    obtain ⟨rfl, hx2⟩ := hx
    simp_all_arith! [at_cell hf, at_cell (show f < c.length by omega), at_cell hx2, at_cell (show done.length + 1 < c.length by omega)]
    split
    · rename_i hlt
      refine knx _ _ ⟨done.length + 1, _, rfl, rfl, hx2, by rw [List.length_append]; exact Nat.le_refl _, fun j hj => ?_, fun j hj => ?_⟩
      · rw [List.length_append, List.length_singleton] at hj
        rcases Nat.lt_or_ge done.length j with q | q
        · have : j = done.length + 1 := by omega
          subst this; exact Int.le_refl _
        · have := hm j q; omega
      · have := hm j (by omega); omega
    · rename_i hlt
      refine knx _ _ ⟨f, _, rfl, rfl, hf, by rw [List.length_append, List.length_singleton]; omega, fun j hj => ?_, hu⟩
      rw [List.length_append, List.length_singleton] at hj
      rcases Nat.lt_or_ge done.length j with q | q
      · have : j = done.length + 1 := by omega
        subst this; omega
      · exact hm j q
  · subst hρ hc
    simp_all_arith! [at_cell hf, at_cell (show f < c.length by omega)]
    have fl : FL r c f := ⟨hf, fun j hj => hm j (by rw [List.length_range]; omega), hu⟩
    rw [← fl.ms e]
    rw [mi_eq fl] at kk
    exact ⟨C1, sub_refl _, kk⟩
def FirstR2 (ds : List D) (C : CM) (P : D → CM → Prop) : Prop := ∃ r c, ds = [rD r, rD c] ∧ r.length = c.length ∧ 1 ≤ r.length ∧ r.length ≤ 12 ∧ P (.tup [.int (mi r c : Int), .int (ms r c)]) C
noncomputable def pairD (w : Nat) (A B : List (List Int)) : D := .tup (A.map fun r => .tup ((List.range w).map fun k => .tup [.int (mi r (colL B k) : Int), .int (ms r (colL B k))]))
theorem all_leasts_ok2 (h1 : Sp tb "check_fit" 2 FitR) (h2 : Sp tb "laid_over" 1 OverR) (h3 : Sp tb "first_least" 1 FirstR2) (hn : 2 ≤ n) {A B : List (List Int)} {m w : Nat} (WA : WF A m) (WB : WF B w) (fit : m = B.length) (kk : P (pairD w A B) C) : denF ⟨Gm tb n, ex⟩ iall_leasts [tbD A, tbD B] C P := by
  refine ⟨rfl, ?_⟩
  have a2 := WA.h2
  have w2 := WB.w2
  simp_all_arith! [iall_leasts]
  refine h1 n hn _ _ _ _ ⟨A, B, m, w, rfl, WA, WB, fit, ?_⟩
  simp_all_arith! []
  refine h2 n (by omega) _ _ _ _ ⟨B, w, rfl, WB, ?_⟩
  simp_all_arith! [tbD]
  refine comp_mapL rD (fun r => .tup ((List.range w).map fun k => .tup [.int (mi r (colL B k) : Int), .int (ms r (colL B k))])) (by rw [sz]; omega) (fun r hr K kK => ?_) ?_
  · unfold overL
    simp_all_arith! []
    rw [List.map_map]
    refine comp_mapL (xs := List.range w) _ (fun k => .tup [.int (mi r (colL B k) : Int), .int (ms r (colL B k))]) (by rw [List.length_range, sz]; omega) (fun k hk K2 kK2 => ?_) ?_
    · simp_all_arith! []
      exact h3 n (by omega) _ _ _ _ ⟨r, colL B k, rfl, by rw [WA.row r hr, fit, colL_len], by rw [WA.row r hr]; exact WA.w1, by rw [WA.row r hr]; exact WA.w2, kK2⟩
    · simp_all_arith! []
      exact kK
  · simp_all_arith! []
    exact ⟨C, sub_refl _, kk⟩
def AllR2 (ds : List D) (C : CM) (P : D → CM → Prop) : Prop := ∃ A B m w, ds = [tbD A, tbD B] ∧ WF A m ∧ WF B w ∧ m = B.length ∧ P (pairD w A B) C
theorem all_weak {k : Nat} (h : Sp tb "all_leasts" k AllR2) : Sp tb "all_leasts" k AllR := fun n hn ds C P ex ⟨A, B, m, w, e, WA, WB, f, kk⟩ => h n hn ds C P ex ⟨A, B, m, w, e, WA, WB, f, kk _ ⟨A.map fun r => (List.range w).map fun k => (mi r (colL B k), ms r (colL B k)), by
  unfold pairD
  rw [List.map_map]
  congr 1
  refine List.map_congr_left fun r _ => ?_
  show _ = D.tup _
  rw [List.map_map]; rfl, by
  unfold prod
  rw [List.map_map]
  refine List.map_congr_left fun r _ => ?_
  show List.map _ _ = _
  rw [List.map_map]; rfl⟩⟩
theorem mids_ok (h1 : Sp tb "all_leasts" 3 AllR2) (hn : 3 ≤ n) {A B : List (List Int)} {m w : Nat} (WA : WF A m) (WB : WF B w) (fit : m = B.length) (kk : P (tbD (midt w A B)) C) : denF ⟨Gm tb n, ex⟩ imids [tbD A, tbD B] C P := by
  refine ⟨rfl, ?_⟩
  have a2 := WA.h2
  have w2 := WB.w2
  simp_all_arith! [imids]
  refine h1 n hn _ _ _ _ ⟨A, B, m, w, rfl, WA, WB, fit, ?_⟩
  unfold pairD
  simp_all_arith! []
  refine comp_mapL (fun r : List Int => .tup ((List.range w).map fun k => .tup [.int (mi r (colL B k) : Int), .int (ms r (colL B k))])) (fun r => rD ((List.range w).map fun k => (mi r (colL B k) : Int))) (by rw [sz]; omega) (fun r hr K kK => ?_) ?_
  · simp_all_arith! []
    refine comp_mapL (xs := List.range w) (fun k : Nat => .tup [.int (mi r (colL B k) : Int), .int (ms r (colL B k))]) (fun k => .int (mi r (colL B k) : Int)) (by rw [List.length_range, sz]; omega) (fun k hk K2 kK2 => ?_) ?_
    · simp_all_arith! [atI_0]
      exact kK2
    · have e : ((List.range w).map fun k => D.int (mi r (colL B k) : Int)) = ((List.range w).map fun k => (mi r (colL B k) : Int)).map .int := by rw [List.map_map]; rfl
      simp_all_arith! [e]
      exact kK
  · have e : (A.map fun r => rD ((List.range w).map fun k => (mi r (colL B k) : Int))) = (midt w A B).map rD := by unfold midt; rw [List.map_map]; rfl
    simp_all_arith! [e]
    exact ⟨C, sub_refl _, kk⟩
def MidsR (ds : List D) (C : CM) (P : D → CM → Prop) : Prop := ∃ A B m w, ds = [tbD A, tbD B] ∧ WF A m ∧ WF B w ∧ m = B.length ∧ P (tbD (midt w A B)) C
theorem zw_range {r : List Int} {B : List (List Int)} {w k : Nat} (WB : WF B w) (e : r.length = B.length) (hk : k < w) : ((List.range r.length).map fun j => cI r j + cI (Row B j) k) = List.zipWith (· + ·) r (colL B k) := by
  refine List.ext_getElem? fun j => ?_
  by_cases hj : j < r.length
  · rw [List.getElem?_map, List.getElem?_range hj, zw_get hj (by rw [colL_len]; omega), colL_at (show j < B.length by omega)]
    rfl
  · rw [List.getElem?_eq_none (by rw [List.length_map, List.length_range]; omega), List.getElem?_eq_none (by rw [List.length_zipWith]; omega)]
theorem due_ok {A B : List (List Int)} {m w : Nat} (WA : WF A m) (WB : WF B w) (fit : m = B.length) (kk : P (.tup [tbD (prod w A B), tbD (midt w A B)]) C) : denF G i_law_due [tbD A, tbD B] C P := by
  refine ⟨rfl, ?_⟩
  have a2 := WA.h2
  have w2 := WB.w2
  have h0 : 0 < B.length := WB.h1
  have e0 : atI (B.map rD) 0 = some (rD (Row B 0)) := at_row (i := 0) h0
  simp_all_arith! [i_law_due]
  unfold tbD
  simp_all_arith! []
  refine for_m rD [2, 3, 4, 5, 6, 7, 8, 9] (fun done ys C' => ∃ (x4 x5 x6 x7 x8 x9 : Option Dv), ys = [some (.own ((prod w done B).map rD)), some (.own ((midt w done B).map rD)), x4, x5, x6, x7, x8, x9] ∧ C' = C) [some (.own []), some (.own []), none, none, none, none, none, none] rfl
    ⟨_, _, _, _, _, _, rfl, rfl⟩ (fun done r rest ys C1 e ⟨x4, x5, x6, x7, x8, x9, hy, hc⟩ nx knx => ?_) fun ys C1 ⟨x4, x5, x6, x7, x8, x9, hy, hc⟩ => ?_
  · subst hy hc
    have hr : r ∈ A := by rw [e]; exact List.mem_append_right _ List.mem_cons_self
    have hrl := WA.row r hr
    have m2 := WA.w2
    have hdl : done.length < 12 := by
      have := congrArg List.length e
      rw [List.length_append, List.length_cons] at this; omega
    simp_all_arith! [e0, rD, WB.rl h0, rangeD_map]
    refine ⟨by omega, by omega, ?_⟩
    refine for_m (fun k : Nat => .int (k : Int)) [5, 6, 7, 8, 9] (fun dn ys C' => ∃ (x7 x8 x9 : Option Dv), ys = [some (.own ((dn.map fun k => ms r (colL B k)).map .int)), some (.own ((dn.map fun k => (mi r (colL B k) : Int)).map .int)), x7, x8, x9] ∧ C' = C1) [some (.own []), some (.own []), _, _, _] rfl ⟨_, _, _, rfl, rfl⟩ (fun dn k rst ys C2 e2 ⟨x7, x8, x9, hy, hc⟩ nx2 knx2 => ?_) fun ys C2 ⟨x7, x8, x9, hy, hc⟩ => ?_
    · subst hy hc
      have hk : k < w := List.mem_range.mp (by rw [e2]; exact List.mem_append_right _ List.mem_cons_self)
      have hdn : dn.length < 12 := by
        have := congrArg List.length e2
        rw [List.length_range, List.length_append, List.length_cons] at this; omega
      simp_all_arith! [rangeD_map]
      refine ⟨by omega, by omega, ?_⟩
      refine comp_mapL (fun j : Nat => .int (j : Int)) (fun j => .int (cI r j + cI (Row B j) k)) (by rw [List.length_range, sz]; omega) (fun j hj K kK => ?_) ?_
      · have hj := List.mem_range.mp hj
        have hjB : j < B.length := by omega
        simp_all_arith! [at_cell hj, at_row hjB, rD, at_cell (show k < (Row B j).length by rw [WB.rl hjB]; exact hk)]
        exact kK
      · have em : ((List.range r.length).map fun j => D.int (cI r j + cI (Row B j) k)) = (List.zipWith (· + ·) r (colL B k)).map .int := by rw [← zw_range WB (by omega) hk, List.map_map]; rfl
        rw [em]
        have hne : List.zipWith (· + ·) r (colL B k) ≠ [] := fun q => by
          have := zw_len (r := r) (c := colL B k) (by rw [colL_len]; omega)
          rw [q] at this
          have := WA.w1
          simp at *
          omega
        simp_all_arith! [intsOf_map]
        refine ⟨hne, by omega, ?_⟩
        simp_all_arith! [intsOf_map]
        refine ⟨hne, mi r (colL B k), first_zw (by rw [colL_len]; omega) (by have := WA.w1; omega), by omega, ?_⟩
        simp_all_arith! []
        have e3 : ∀ (f : Nat → Int), (dn.map f).map D.int ++ [.int (f k)] = ((dn ++ [k]).map f).map .int := fun f => by rw [List.map_append, List.map_append]; rfl
        have e4 := e3 fun k => ms r (colL B k)
        have e5 := e3 fun k => (mi r (colL B k) : Int)
        show nx2 [_, _, _, _, _, some (.own (_ ++ [D.int (ms r (colL B k))])), some (.own (_ ++ [_])), _, _, _] C2
        rw [e4, e5]
        exact knx2 [_, _, _, _, _] _ ⟨_, _, _, rfl, rfl⟩
    · subst hy hc
      simp_all_arith! []
      have e3 : ∀ (f : List Int → List Int), (done.map f).map rD ++ [rD (f r)] = ((done ++ [r]).map f).map rD := fun f => by rw [List.map_append, List.map_append]; rfl
      have e4 := e3 fun r => (List.range w).map fun k => ms r (colL B k)
      have e5 := e3 fun r => (List.range w).map fun k => (mi r (colL B k) : Int)
      refine ⟨by unfold prod; rw [List.length_map]; omega, ?_⟩
      simp_all_arith! []
      refine ⟨by unfold midt; rw [List.length_map]; omega, ?_⟩
      simp_all_arith! []
      have h := knx [some (.own ((prod w (done ++ [r]) B).map rD)), some (.own ((midt w (done ++ [r]) B).map rD)), some (.dat (.tup (r.map .int))), some (.dat (.lst (((List.range w).map fun k => ms r (colL B k)).map .int))), some (.dat (.lst (((List.range w).map fun k => (mi r (colL B k) : Int)).map .int))), x7, x8, x9] C2 ⟨_, _, _, _, _, _, rfl, rfl⟩
      unfold prod midt at h ⊢
      rw [← e4, ← e5] at h
      exact h
  · subst hy hc
    simp_all_arith! []
    exact ⟨C1, sub_refl _, kk⟩
def DueR (ds : List D) (C : CM) (P : D → CM → Prop) : Prop := ∃ A B m w, ds = [tbD A, tbD B] ∧ WF A m ∧ WF B w ∧ m = B.length ∧ P (.tup [tbD (prod w A B), tbD (midt w A B)]) C
end
end M61.B31

set_option Elab.async false
set_option linter.all false
set_option autoImplicit false
set_option maxRecDepth 100000
/-! P23: products in any brackets, powers; tables drawn that bend. -/
namespace M61.B31
open PySem PySem.Spec PyProof.Rows L2
local macro_rules
  | `(tactic| simp_arith! [$ls,*] $[$loc:location]?) => `(tactic| try simp only [wipeR_cons, wipeR_nil, eq_self, denE, denT, denEs, denO, denC, denI, bindT_nm, bindT_tp, bindT_tl, bindTs_nil, bindTs_cons, varD_0, varD_s, varM_own0, varM_dat0, varM_s, varO_0, varO_s, varL_own0, varL_ref0, varL_s, sz, cp1, cp2, cp3, cp4, cp5, cp6, cp7, cp8, cp9, cp10, cp11, cp12, cp15, cp18, add_i, add_t, add_l, add_s, add_b, sub_b, sub_i, mul_i, mul_t, mul_l, fdiv_i, mod_i, pow_i, shl_i, eq_r, ne_r, inn_t, nin_t, inn_l, nin_l, lt_r, lt_tt, le_r, gt_r, ge_r, is_n, isn_n, is_b, isn_b, isNon_n, isNon_i, isNon_t, isNon_l, isNon_b, isNon_s, tru_n, tru_b, tru_i, tru_t, tru_l, ix_t, ix_l, ix_c, ix_r, cellAt_l, cellL_l, lstD_l, lstD_r, sqD_t, sqD_l, sl_t, sl_l, sl_c, sl_r, rev_t, rev_l, len_t, len_l, len_c, len_r, tup_t, tup_l, tup_r, sum_t, sum_l, sum_r, min_t, min_l, max_t, max_l, min_2, max_2, min_3, repr_r, str_ri, abs_i, int_i, int_b, all_l, any_l, ty_bb, ty_bi, ty_bn, ty_bt, ty_ss, ty_sn, ty_si, ty_sb, ty_ii, ty_ib, ty_in, ty_it, ty_tt, ty_tn, ty_ti, ty_tb, ty_ll, ty_lt, ty_is, ty_il, ty_bs, ty_blst, ty_st, ty_sl, ty_ts, ty_tl, ty_ln, ty_li, ty_lb, ty_ls, intsOf_map, boolsOf_map, pair_Cmp, int_Cmp, bl_Cmp, non_Cmp, ints_Cmp, intst_Cmp, eqv_int, eqv_bl, eqv_ints, eqv_intst, List.map_cons, List.map_nil, List.replicate_succ, List.replicate_zero, List.cons_append, List.nil_append, List.set_cons_zero, List.set_cons_succ, List.length_cons, List.length_nil, List.getElem?_cons_zero, List.getElem?_cons_succ, List.eraseIdx_cons_zero, Nat.reduceSub, Nat.reduceAdd, Nat.reduceLT, Nat.reduceLeDiff, Nat.reducePow, Nat.reduceEqDiff, Nat.reduceMul, Int.reducePow, Int.reduceToNat, Int.reduceMul, Int.reduceAdd, Int.reduceSub, Int.reduceNeg, Int.reduceLT, Int.reduceLE, Int.reduceEq, Int.reduceBEq, Int.reduceBNe, zero_add', not_true_eq_false, not_false_eq_true, Bool.true_eq_false, false_and, and_false, true_and, and_true, exists_eq_left', exists_and_left, Option.some.injEq, Cell.lst.injEq, Cell.dct.injEq, if_pos_true, reduceIte, Bool.false_eq_true, decide_true, decide_false, Bool.not_true, Bool.not_false, Bool.not_eq_true', Bool.and_true, Bool.true_and, decide_eq_true_eq, decide_eq_false_iff_not, ite_self, List.isEmpty_cons, List.isEmpty_nil, ss_nil', ss_cons', s_set', s_own', s_setF', s_unp', s_par2', par2K_e, s_par3', par3K_e, s_app', s_ext', extK_e, s_exp', s_csub', csubK_e, s_dset', dsetK_e, s_capp', cappK_e, s_aug', augK_a, augK_s, s_oset', osetK_e, s_ife', s_for', s_forc', forcK_e, s_whl', s_ret', s_ret0', s_pass', s_brk', s_cnt', l_comp', l_compc', compcK_e, l_lit', l_cat', l_rvd', l_lrv', l_ls2', l_list', l_srt', srtK_e, l_srr', srrK_e, l_lrg1', l_lrg2', lrgK_e, l_rep', repK_e, setM_nil, setM_cons, Int.toNat_natCast, List.length_map, exists_eq_left, $ls,*] $[$loc]?)
local macro_rules
  | `(tactic| simp_all_arith! [$ls,*]) => `(tactic| ((try simp only [wipeR_cons, wipeR_nil, eq_self, denE, denT, denEs, denO, denC, denI, bindT_nm, bindT_tp, bindT_tl, bindTs_nil, bindTs_cons, varD_0, varD_s, varM_own0, varM_dat0, varM_s, varO_0, varO_s, varL_own0, varL_ref0, varL_s, sz, cp1, cp2, cp3, cp4, cp5, cp6, cp7, cp8, cp9, cp10, cp11, cp12, cp15, cp18, add_i, add_t, add_l, add_s, add_b, sub_b, sub_i, mul_i, mul_t, mul_l, fdiv_i, mod_i, pow_i, shl_i, eq_r, ne_r, inn_t, nin_t, inn_l, nin_l, lt_r, lt_tt, le_r, gt_r, ge_r, is_n, isn_n, is_b, isn_b, isNon_n, isNon_i, isNon_t, isNon_l, isNon_b, isNon_s, tru_n, tru_b, tru_i, tru_t, tru_l, ix_t, ix_l, ix_c, ix_r, cellAt_l, cellL_l, lstD_l, lstD_r, sqD_t, sqD_l, sl_t, sl_l, sl_c, sl_r, rev_t, rev_l, len_t, len_l, len_c, len_r, tup_t, tup_l, tup_r, sum_t, sum_l, sum_r, min_t, min_l, max_t, max_l, min_2, max_2, min_3, repr_r, str_ri, abs_i, int_i, int_b, all_l, any_l, ty_bb, ty_bi, ty_bn, ty_bt, ty_ss, ty_sn, ty_si, ty_sb, ty_ii, ty_ib, ty_in, ty_it, ty_tt, ty_tn, ty_ti, ty_tb, ty_ll, ty_lt, ty_is, ty_il, ty_bs, ty_blst, ty_st, ty_sl, ty_ts, ty_tl, ty_ln, ty_li, ty_lb, ty_ls, intsOf_map, boolsOf_map, pair_Cmp, int_Cmp, bl_Cmp, non_Cmp, ints_Cmp, intst_Cmp, eqv_int, eqv_bl, eqv_ints, eqv_intst, List.map_cons, List.map_nil, List.replicate_succ, List.replicate_zero, List.cons_append, List.nil_append, List.set_cons_zero, List.set_cons_succ, List.length_cons, List.length_nil, List.getElem?_cons_zero, List.getElem?_cons_succ, List.eraseIdx_cons_zero, Nat.reduceSub, Nat.reduceAdd, Nat.reduceLT, Nat.reduceLeDiff, Nat.reducePow, Nat.reduceEqDiff, Nat.reduceMul, Int.reducePow, Int.reduceToNat, Int.reduceMul, Int.reduceAdd, Int.reduceSub, Int.reduceNeg, Int.reduceLT, Int.reduceLE, Int.reduceEq, Int.reduceBEq, Int.reduceBNe, zero_add', not_true_eq_false, not_false_eq_true, Bool.true_eq_false, false_and, and_false, true_and, and_true, exists_eq_left', exists_and_left, Option.some.injEq, Cell.lst.injEq, Cell.dct.injEq, if_pos_true, reduceIte, Bool.false_eq_true, decide_true, decide_false, Bool.not_true, Bool.not_false, Bool.not_eq_true', Bool.and_true, Bool.true_and, decide_eq_true_eq, decide_eq_false_iff_not, ite_self, List.isEmpty_cons, List.isEmpty_nil, ss_nil', ss_cons', s_set', s_own', s_setF', s_unp', s_par2', par2K_e, s_par3', par3K_e, s_app', s_ext', extK_e, s_exp', s_csub', csubK_e, s_dset', dsetK_e, s_capp', cappK_e, s_aug', augK_a, augK_s, s_oset', osetK_e, s_ife', s_for', s_forc', forcK_e, s_whl', s_ret', s_ret0', s_pass', s_brk', s_cnt', l_comp', l_compc', compcK_e, l_lit', l_cat', l_rvd', l_lrv', l_ls2', l_list', l_srt', srtK_e, l_srr', srrK_e, l_lrg1', l_lrg2', lrgK_e, l_rep', repK_e, setM_nil, setM_cons, Int.toNat_natCast, List.length_map, exists_eq_left, $ls,*]); (repeat ((with_reducible (first | refine blk_of ?_ | refine turn_of ?_ | refine tst_of ?_)); (try simp only [wipeR_cons, wipeR_nil, eq_self, denE, denT, denEs, denO, denC, denI, bindT_nm, bindT_tp, bindT_tl, bindTs_nil, bindTs_cons, varD_0, varD_s, varM_own0, varM_dat0, varM_s, varO_0, varO_s, varL_own0, varL_ref0, varL_s, sz, cp1, cp2, cp3, cp4, cp5, cp6, cp7, cp8, cp9, cp10, cp11, cp12, cp15, cp18, add_i, add_t, add_l, add_s, add_b, sub_b, sub_i, mul_i, mul_t, mul_l, fdiv_i, mod_i, pow_i, shl_i, eq_r, ne_r, inn_t, nin_t, inn_l, nin_l, lt_r, lt_tt, le_r, gt_r, ge_r, is_n, isn_n, is_b, isn_b, isNon_n, isNon_i, isNon_t, isNon_l, isNon_b, isNon_s, tru_n, tru_b, tru_i, tru_t, tru_l, ix_t, ix_l, ix_c, ix_r, cellAt_l, cellL_l, lstD_l, lstD_r, sqD_t, sqD_l, sl_t, sl_l, sl_c, sl_r, rev_t, rev_l, len_t, len_l, len_c, len_r, tup_t, tup_l, tup_r, sum_t, sum_l, sum_r, min_t, min_l, max_t, max_l, min_2, max_2, min_3, repr_r, str_ri, abs_i, int_i, int_b, all_l, any_l, ty_bb, ty_bi, ty_bn, ty_bt, ty_ss, ty_sn, ty_si, ty_sb, ty_ii, ty_ib, ty_in, ty_it, ty_tt, ty_tn, ty_ti, ty_tb, ty_ll, ty_lt, ty_is, ty_il, ty_bs, ty_blst, ty_st, ty_sl, ty_ts, ty_tl, ty_ln, ty_li, ty_lb, ty_ls, intsOf_map, boolsOf_map, pair_Cmp, int_Cmp, bl_Cmp, non_Cmp, ints_Cmp, intst_Cmp, eqv_int, eqv_bl, eqv_ints, eqv_intst, List.map_cons, List.map_nil, List.replicate_succ, List.replicate_zero, List.cons_append, List.nil_append, List.set_cons_zero, List.set_cons_succ, List.length_cons, List.length_nil, List.getElem?_cons_zero, List.getElem?_cons_succ, List.eraseIdx_cons_zero, Nat.reduceSub, Nat.reduceAdd, Nat.reduceLT, Nat.reduceLeDiff, Nat.reducePow, Nat.reduceEqDiff, Nat.reduceMul, Int.reducePow, Int.reduceToNat, Int.reduceMul, Int.reduceAdd, Int.reduceSub, Int.reduceNeg, Int.reduceLT, Int.reduceLE, Int.reduceEq, Int.reduceBEq, Int.reduceBNe, zero_add', not_true_eq_false, not_false_eq_true, Bool.true_eq_false, false_and, and_false, true_and, and_true, exists_eq_left', exists_and_left, Option.some.injEq, Cell.lst.injEq, Cell.dct.injEq, if_pos_true, reduceIte, Bool.false_eq_true, decide_true, decide_false, Bool.not_true, Bool.not_false, Bool.not_eq_true', Bool.and_true, Bool.true_and, decide_eq_true_eq, decide_eq_false_iff_not, ite_self, List.isEmpty_cons, List.isEmpty_nil, ss_nil', ss_cons', s_set', s_own', s_setF', s_unp', s_par2', par2K_e, s_par3', par3K_e, s_app', s_ext', extK_e, s_exp', s_csub', csubK_e, s_dset', dsetK_e, s_capp', cappK_e, s_aug', augK_a, augK_s, s_oset', osetK_e, s_ife', s_for', s_forc', forcK_e, s_whl', s_ret', s_ret0', s_pass', s_brk', s_cnt', l_comp', l_compc', compcK_e, l_lit', l_cat', l_rvd', l_lrv', l_ls2', l_list', l_srt', srtK_e, l_srr', srrK_e, l_lrg1', l_lrg2', lrgK_e, l_rep', repK_e, setM_nil, setM_cons, Int.toNat_natCast, List.length_map, exists_eq_left, $ls,*])))))
open M61.k69 (Row cI WF Row_mem rD tbD at_row at_cell sk)
open M61.MP
def i_law_slack : Def := ⟨2, 4,
  (.cons (.set 2 (.call "_law_draw" (.cons (.var 0) (.cons (.int 8) .nil))))
  (.cons (.set 3 (.call "_law_draw" (.cons (.var 0) (.cons (.bin .pow (.int 10) (.int 6)) .nil))))
  (.cons (.ret (.bin .mul (.ix (.frz (.lit (.cons (.int 0) (.cons (.int 0) (.cons (.int 1) (.cons (.int 2) (.cons (.var 3) (.cons (.int 0) (.cons (.var 2) (.cons (.bin .pow (.int 10) (.int 6)) .nil)))))))))) (.var 2)) (.blt .int (.cons (.cmp .gt (.var 1) (.int 0)) .nil))))
  .nil)))⟩
def i_law_edge : Def := ⟨3, 8,
  (.cons (.own 3 (.lit .nil))
  (.cons (.for (.nm 4) (.rng1 (.var 2)) (.cons (.set 5 (.ix (.frz (.lit (.cons (.int 1) (.cons (.neg (.int 1)) .nil)))) (.call "_law_draw" (.cons (.var 0) (.cons (.int 2) .nil)))))
  (.cons (.set 6 (.call "_law_draw" (.cons (.var 0) (.cons (.int 7) .nil))))
  (.cons (.set 7 (.call "_law_far" (.cons (.var 0) (.cons (.bin .mul (.int 4) (.bin .pow (.int 10) (.int 8))) .nil))))
  (.cons (.app 3 (.ix (.frz (.lit (.cons (.bin .sub (.var 6) (.int 3)) (.cons (.int 0) (.cons (.bin .mul (.var 5) (.var 7)) (.cons (.var 6) .nil)))))) (.var 1)))
  .nil)))))
  (.cons (.ret (.mv 3))
  .nil)))⟩
def i_law_bending : Def := ⟨3, 13,
  (.cons (.set 3 (.call "_law_draw" (.cons (.var 0) (.cons (.int 4) .nil))))
  (.cons (.set 4 (.call "_law_draw" (.cons (.var 0) (.cons (.int 4) .nil))))
  (.cons (.set 5 (.call "_law_edge" (.cons (.var 0) (.cons (.var 3) (.cons (.var 1) .nil)))))
  (.cons (.set 6 (.call "_law_edge" (.cons (.var 0) (.cons (.var 3) (.cons (.var 2) .nil)))))
  (.cons (.own 7 (.rep (.frz (.lit (.cons (.int 0) .nil))) (.var 2)))
  (.cons (.own 8 (.lit .nil))
  (.cons (.for (.nm 9) (.rng1 (.var 1)) (.cons (.set 10 (.int 0))
  (.cons (.own 11 (.lit .nil))
  (.cons (.for (.nm 12) (.rng1 (.var 2)) (.cons (.app 11 (.bin .sub (.bin .add (.ix (.var 5) (.var 9)) (.ix (.var 6) (.var 12))) (.oix 7 (.var 12))))
  .nil))
  (.cons (.app 8 (.blt .tuple (.cons (.mv 11) .nil)))
  (.cons (.for (.nm 12) (.rng2 (.int 1) (.var 2)) (.cons (.set 10 (.bin .add (.var 10) (.call "_law_slack" (.cons (.var 0) (.cons (.var 4) .nil)))))
  (.cons (.oset 7 (.var 12) (.bin .add (.oix 7 (.var 12)) (.var 10)))
  .nil)))
  .nil))))))
  (.cons (.ret (.blt .tuple (.cons (.mv 8) .nil)))
  .nil))))))))⟩
def i_law_product : Def := ⟨2, 6,
  (.cons (.own 2 (.lit .nil))
  (.cons (.for (.nm 3) (.seq (.var 0)) (.cons (.app 2 (.blt .tuple (.cons (.frz (.comp [4] (.blt .min (.cons (.frz (.comp [5] (.bin .add (.ix (.var 3) (.var 5)) (.ix (.ix (.var 1) (.var 5)) (.var 4))) (.nm 5) (.rng1 (.blt .len (.cons (.var 3) .nil))) .no)) .nil)) (.nm 4) (.rng1 (.blt .len (.cons (.ix (.var 1) (.int 0)) .nil))) .no)) .nil)))
  .nil))
  (.cons (.ret (.blt .tuple (.cons (.mv 2) .nil)))
  .nil)))⟩
theorem cI_range {f : Nat → Int} {w k : Nat} (h : k < w) : cI ((List.range w).map f) k = f k := by
  unfold cI
  rw [List.getElem?_map, List.getElem?_range h]; rfl
/-- products in any brackets -/
theorem prod_assoc {A B Z : List (List Int)} {p q w : Nat} (WA : WF A p) (WB : WF B q) (WZ : WF Z w) (fa : p = B.length) (fb : q = Z.length) : prod w (prod q A B) Z = prod w A (prod w B Z) := by
  unfold prod
  rw [List.map_map]
  refine List.map_congr_left fun r hr => ?_
  show (List.range w).map _ = (List.range w).map _
  refine List.map_congr_left fun k hk => ?_
  have hk := List.mem_range.mp hk
  have rl := WA.row r hr
  have e1 : ∀ j, r.length = (colL B j).length := fun j => by rw [rl, fa, colL_len]
  have b1 : 1 ≤ B.length := WB.h1
  have e2 : ((List.range q).map fun j => ms r (colL B j)).length = (colL Z k).length := by rw [List.length_map, List.length_range, colL_len, fb]
  have e3 : ∀ i, i < B.length → (Row B i).length = (colL Z k).length := fun i hi => by rw [WB.rl hi, colL_len, fb]
  have e4 : r.length = (colL (B.map fun r => (List.range w).map fun k => ms r (colL Z k)) k).length := by rw [rl, fa, colL_len, List.length_map]
  have c1 : ∀ i, i < B.length → cI (colL (B.map fun r => (List.range w).map fun k => ms r (colL Z k)) k) i = ms (Row B i) (colL Z k) := fun i hi => by
    rw [colL_at (by rw [List.length_map]; exact hi)]
    exact prod_at hi hk
  have hq : 0 < q := WB.w1
  show ms ((List.range q).map fun j => ms r (colL B j)) (colL Z k) = ms r (colL (B.map fun r => (List.range w).map fun k => ms r (colL Z k)) k)
  refine Int.le_antisymm ?_ ?_
  · obtain ⟨i, hi, ei⟩ := ms_at e4 (by omega)
    rw [ei, c1 i (by omega)]
    obtain ⟨j, hj, ej⟩ := ms_at (e3 i (by omega)) (by rw [WB.rl (by omega)]; exact hq)
    rw [WB.rl (by omega)] at hj
    rw [ej]
    have h1 := ms_le (j := j) e2 (by rw [List.length_map, List.length_range]; exact hj)
    rw [cI_range hj] at h1
    have h2 := ms_le (j := i) (e1 j) hi
    rw [colL_at (show i < B.length by omega)] at h2
    omega
  · obtain ⟨j, hj, ej⟩ := ms_at e2 (by rw [List.length_map, List.length_range]; exact hq)
    rw [List.length_map, List.length_range] at hj
    rw [ej, cI_range hj]
    obtain ⟨i, hi, ei⟩ := ms_at (e1 j) (by omega)
    rw [ei, colL_at (show i < B.length by omega)]
    have h1 := ms_le (j := i) e4 hi
    rw [c1 i (by omega)] at h1
    have h2 := ms_le (j := j) (e3 i (by omega)) (by rw [WB.rl (by omega)]; exact hj)
    omega
/-- powers, one by one -/
def pwr (w : Nat) (t : List (List Int)) : Nat → List (List Int)
  | 0 => t
  | n + 1 => prod w (pwr w t n) t
theorem pwr_sq {w : Nat} {t : List (List Int)} (s : Sq w t) : ∀ n, Sq w (pwr w t n)
  | 0 => s
  | n + 1 => sq_prod (pwr_sq s n) s
theorem pwr_add {w : Nat} {t : List (List Int)} (s : Sq w t) (a : Nat) : ∀ b, prod w (pwr w t a) (pwr w t b) = pwr w t (a + b + 1)
  | 0 => rfl
  | b + 1 => by
    have sa := pwr_sq s a
    have sb := pwr_sq s b
    show prod w (pwr w t a) (prod w (pwr w t b) t) = prod w (pwr w t (a + b + 1)) t
    rw [← prod_assoc sa.1 sb.1 s.1 sb.2.symm s.2.symm, pwr_add s a b]
theorem pwr_bd {w : Nat} {t : List (List Int)} {X : Int} (s : Sq w t) (h : Bd X t) : ∀ n : Nat, Bd (((n + 1 : Nat) : Int) * X) (pwr w t n)
  | 0 => h.mono (by rw [show ((0 + 1 : Nat) : Int) = 1 from rfl, Int.one_mul]; exact Int.le_refl _)
  | n + 1 => (prod_bd (pwr_sq s n).1 s.1 s.2.symm (pwr_bd s h n) h).mono (by
    rw [show ((n + 1 + 1 : Nat) : Int) = ((n + 1 : Nat) : Int) + 1 from rfl, Int.add_mul, Int.one_mul]
    exact Int.le_refl _)
def fo (w : Nat) (t : List (List Int)) : Nat → Option (List (List Int))
  | 0 => none
  | a + 1 => some (pwr w t a)
theorem pw_pwr {w : Nat} {t : List (List Int)} (s : Sq w t) : ∀ (n many a b : Nat), many ≤ n → pw w n many (fo w t a) (pwr w t b) = fo w t (a + many * (b + 1))
  | 0, many, a, b, h => by
    have : many = 0 := by omega
    subst this
    rw [pw_0, Nat.zero_mul]; rfl
  | n + 1, many, a, b, h => by
    by_cases hz : many = 0
    · subst hz
      rw [pw_0, Nat.zero_mul]; rfl
    · rw [pw_s (by omega), pwr_add s b b]
      have hdm : 2 * (many / 2) + many % 2 = many := by omega
      have key : (many / 2) * (b + b + 1 + 1) + (many % 2) * (b + 1) = many * (b + 1) := by
        have e1 : (many / 2) * (b + b + 1 + 1) = 2 * (many / 2) * (b + 1) := by
          rw [show b + b + 1 + 1 = 2 * (b + 1) by omega, ← Nat.mul_assoc, Nat.mul_comm (many / 2) 2]
        rw [e1, ← Nat.add_mul, hdm]
      by_cases q : many % 2 = 1
      · have e : pstep w many (fo w t a) (pwr w t b) = fo w t (a + (b + 1)) := by
          unfold pstep
          rw [if_pos q]
          cases a with
          | zero => rw [Nat.zero_add]; rfl
          | succ a => show some (prod w (pwr w t a) (pwr w t b)) = _; rw [pwr_add s a b]; show _ = some (pwr w t (a + 1 + b)); rw [show a + 1 + b = a + b + 1 by omega]
        rw [e, pw_pwr s n (many / 2) _ _ (by omega)]
        rw [q, Nat.one_mul] at key
        congr 1; omega
      · have e : pstep w many (fo w t a) (pwr w t b) = fo w t a := by unfold pstep; rw [if_neg q]
        rw [e, pw_pwr s n (many / 2) _ _ (by omega)]
        have q0 : many % 2 = 0 := by omega
        rw [q0, Nat.zero_mul] at key
        congr 1; omega
theorem pw_is {w N : Nat} {t : List (List Int)} (s : Sq w t) (h : 1 ≤ N) : pw w N N none t = some (pwr w t (N - 1)) := by
  have := pw_pwr s N N 0 0 (Nat.le_refl _)
  rw [Nat.zero_add, Nat.mul_one] at this
  obtain ⟨m, rfl⟩ : ∃ m, N = m + 1 := ⟨N - 1, by omega⟩
  exact this
section
variable {tb : List (String × Def)} {n : Nat} {a b : Addr} {C : CM} {P : D → CM → Prop} {ex : Exc → CM → Prop} {G : Ctx}
theorem law_product_ok2 {A B : List (List Int)} {m w : Nat} (WA : WF A m) (WB : WF B w) (fit : m = B.length) (kk : P (tbD (prod w A B)) C) : denF G i_law_product [tbD A, tbD B] C P := by
  refine ⟨rfl, ?_⟩
  have a2 := WA.h2
  have w2 := WB.w2
  have m2 := WA.w2
  have h0 : 0 < B.length := WB.h1
  have e0 : atI (B.map rD) 0 = some (rD (Row B 0)) := at_row (i := 0) h0
  simp_all_arith! [i_law_product]
  unfold tbD
  simp_all_arith! []
  refine for_m rD [2, 3, 4, 5] (fun done ys C' => ∃ (x3 x4 x5 : Option Dv), ys = [some (.own ((prod w done B).map rD)), x3, x4, x5] ∧ C' = C) [some (.own []), none, none, none] rfl ⟨_, _, _, rfl, rfl⟩ (fun done r rest ys C1 e ⟨x3, x4, x5, hy, hc⟩ nx knx => ?_) fun ys C1 ⟨x3, x4, x5, hy, hc⟩ => ?_
  · subst hy hc
    have hr : r ∈ A := by rw [e]; exact List.mem_append_right _ List.mem_cons_self
    have hrl := WA.row r hr
    have hdl : done.length < 12 := by
      have := congrArg List.length e
      rw [List.length_append, List.length_cons] at this; omega
    simp_all_arith! [e0, rD, WB.rl h0, rangeD_map]
    refine ⟨by omega, by omega, ?_⟩
    refine comp_mapL (xs := List.range w) (fun k : Nat => .int (k : Int)) (fun k => .int (ms r (colL B k))) (by rw [List.length_range, sz]; omega) (fun k hk K kK => ?_) ?_
    · have hk := List.mem_range.mp hk
      simp_all_arith! [rangeD_map]
      refine ⟨by omega, by omega, ?_⟩
      refine comp_mapL (xs := List.range r.length) (fun j : Nat => .int (j : Int)) (fun j => .int (cI r j + cI (Row B j) k)) (by rw [List.length_range, sz]; omega) (fun j hj K2 kK2 => ?_) ?_
      · have hj := List.mem_range.mp hj
        have hjB : j < B.length := by omega
        simp_all_arith! [at_cell hj, at_row hjB, rD, at_cell (show k < (Row B j).length by rw [WB.rl hjB]; exact hk)]
        exact kK2
      · have em : ((List.range r.length).map fun j => D.int (cI r j + cI (Row B j) k)) = (List.zipWith (· + ·) r (colL B k)).map .int := by rw [← zw_range WB (by omega) hk, List.map_map]; rfl
        rw [em]
        have hne : List.zipWith (· + ·) r (colL B k) ≠ [] := fun q => by
          have h1 := zw_len (r := r) (c := colL B k) (by rw [colL_len]; omega)
          rw [q, List.length_nil] at h1
          have := WA.w1
          omega
        simp_all_arith! [intsOf_map]
        exact ⟨hne, kK⟩
    · have em : ((List.range w).map fun k => D.int (ms r (colL B k))) = ((List.range w).map fun k => ms r (colL B k)).map .int := by rw [List.map_map]; rfl
      rw [em]
      simp_all_arith! []
      refine ⟨by unfold prod; rw [List.length_map]; omega, ?_⟩
      simp_all_arith! []
      have e4 : (prod w done B).map rD ++ [D.tup (((List.range w).map fun k => ms r (colL B k)).map .int)] = (prod w (done ++ [r]) B).map rD := by unfold prod; rw [List.map_append, List.map_append]; rfl
      rw [e4]
      exact knx [_, _, _, _] _ ⟨_, _, _, rfl, rfl⟩
  · subst hy hc
    simp_all_arith! []
    exact ⟨C1, sub_refl _, kk⟩
def SlackR (ds : List D) (C : CM) (P : D → CM → Prop) : Prop := ∃ a b g, ds = [.ref a, .int g] ∧ Deck a b C ∧ ∀ x C', 0 ≤ x → x ≤ 1000000 → Deck a b C' → P (.int x) C'
theorem slack_ok (hd : Sp tb "_law_draw" 1 DrawR) (hn : 1 ≤ n) {g : Int} (hD : Deck a b C) (k : ∀ x C', 0 ≤ x → x ≤ 1000000 → Deck a b C' → P (.int x) C') : denF ⟨Gm tb n, ex⟩ i_law_slack [.ref a, .int g] C P := by
  refine ⟨rfl, ?_⟩
  simp_all_arith! [i_law_slack]
  refine use_draw hd hn hD (by decide) (by decide) fun u C1 u0 u1 hD1 _ => ?_
  simp_all_arith! []
  refine use_draw hd hn hD1 (by decide) (by decide) fun v C2 v0 v1 hD2 _ => ?_
  obtain ⟨z, mz, _, ez⟩ := atI_in (xs := [0, 0, 1, 2, v, 0, u, 1000000].map D.int) (i := u) u0 (by simp only [List.map_cons, List.map_nil, List.length_cons, List.length_nil]; omega)
  obtain ⟨y, hy, rfl⟩ := int_mem mz
  simp only [List.map_cons, List.map_nil] at ez
  have hyb : 0 ≤ y ∧ y ≤ 1000000 := by
    simp only [List.mem_cons, List.not_mem_nil, or_false] at hy
    rcases hy with rfl | rfl | rfl | rfl | rfl | rfl | rfl | rfl <;> omega
  simp_all_arith! [ez]
  by_cases hg : 0 < g
  · simp_all_arith! [eq_true hg]
    refine ⟨cmul_l _ _ (by omega), C2, sub_refl _, k _ _ (by omega) (by omega) hD2⟩
  · simp_all_arith! [eq_false hg]
    refine ⟨cmul_l _ _ (by omega), C2, sub_refl _, k _ _ (by omega) (by omega) hD2⟩
def EdgeR (ds : List D) (C : CM) (P : D → CM → Prop) : Prop := ∃ a b g, ∃ m : Nat, ds = [.ref a, .int g, .int (m : Int)] ∧ 0 ≤ g ∧ g < 4 ∧ m ≤ 12 ∧ Deck a b C ∧ ∀ (l : List Int) C', l.length = m → (∀ x ∈ l, -400000000 ≤ x ∧ x ≤ 400000000) → Deck a b C' → P (.lst (l.map .int)) C'
theorem edge_ok (hd : Sp tb "_law_draw" 1 DrawR) (hf : Sp tb "_law_far" 2 FarR) (hn : 2 ≤ n) {g : Int} {m : Nat} (g0 : 0 ≤ g) (g1 : g < 4) (hm : m ≤ 12) (hD : Deck a b C) (k : ∀ (l : List Int) C', l.length = m → (∀ x ∈ l, -400000000 ≤ x ∧ x ≤ 400000000) → Deck a b C' → P (.lst (l.map .int)) C') : denF ⟨Gm tb n, ex⟩ i_law_edge [.ref a, .int g, .int (m : Int)] C P := by
  refine ⟨rfl, ?_⟩
  simp_all_arith! [i_law_edge, rangeD_map]
  refine ⟨by omega, by omega, ?_⟩
  refine for_m (fun i : Nat => .int (i : Int)) [3, 4, 5, 6, 7] (fun done ys C' => ∃ (l : List Int) (x4 x5 x6 x7 : Option Dv), ys = [some (.own (l.map .int)), x4, x5, x6, x7] ∧ l.length = done.length ∧ (∀ x ∈ l, -400000000 ≤ x ∧ x ≤ 400000000) ∧ Deck a b C') [some (.own ([].map .int)), none, none, none, none] rfl ⟨[], _, _, _, _, rfl, rfl, (by intro z hz; cases hz), hD⟩ (fun done j rest ys C1 e ⟨l, x4, x5, x6, x7, hy, hl, hb, hD1⟩ nx knx => ?_) fun ys C1 ⟨l, x4, x5, x6, x7, hy, hl, hb, hD1⟩ => ?_
  · subst hy
    have hdl : done.length < 12 := by
      have := congrArg List.length e
      rw [List.length_range, List.length_append, List.length_cons] at this; omega
    simp_all_arith! []
    refine use_draw hd (by omega) hD1 (by decide) (by decide) fun x C2 x0 x1 hD2 _ => ?_
    obtain ⟨s, hs, es⟩ : ∃ s : Int, (s = 1 ∨ s = -1) ∧ atI [D.int 1, D.int (-1)] x = some (.int s) := by
      obtain rfl | rfl : x = 0 ∨ x = 1 := by omega
      · exact ⟨1, .inl rfl, rfl⟩
      · exact ⟨-1, .inr rfl, rfl⟩
    simp_all_arith! [es]
    refine use_draw hd (by omega) hD2 (by decide) (by decide) fun y C3 y0 y1 hD3 _ => ?_
    simp_all_arith! []
    refine ⟨cmul_l _ _ (by decide), hf n hn _ _ _ _ ⟨a, b, 400000000, rfl, by decide, by decide, hD3, fun z C4 z0 z1 hD4 => ?_⟩⟩
    obtain ⟨q, mq, _, eq⟩ := atI_in (xs := [y - 3, 0, s * z, y].map D.int) (i := g) g0 (by simp only [List.map_cons, List.map_nil, List.length_cons, List.length_nil]; omega)
    obtain ⟨v, hv, rfl⟩ := int_mem mq
    simp only [List.map_cons, List.map_nil] at eq
    have hvb : -400000000 ≤ v ∧ v ≤ 400000000 := by
      simp only [List.mem_cons, List.not_mem_nil, or_false] at hv
      rcases hv with rfl | rfl | rfl | rfl
      · omega
      · omega
      · rcases hs with rfl | rfl <;> omega
      · omega
    simp_all_arith! [eq]
    refine ⟨cmul_l _ _ (by omega), by omega, ?_⟩
    simp_all_arith! []
    have em : l.map D.int ++ [.int v] = (l ++ [v]).map .int := by rw [List.map_append]; rfl
    rw [em]
    refine knx [_, _, _, _, _] C4 ⟨_, _, _, _, _, rfl, by rw [List.length_append, List.length_append, hl]; rfl, fun u hu => ?_, hD4⟩
    rcases List.mem_append.mp hu with z | z
    · exact hb u z
    · rw [List.mem_singleton.mp z]; exact hvb
  · subst hy
    rw [List.length_range] at hl
    simp_all_arith! []
    exact ⟨C1, sub_refl _, k l C1 hl hb hD1⟩
theorem cI_set {l : List Int} {j k : Nat} {v : Int} (h : j < l.length) : cI (l.set j v) k = if k = j then v else cI l k := by
  unfold cI
  rw [List.getElem?_set]
  by_cases e : j = k
  · subst e
    rw [if_pos rfl, if_pos h, if_pos rfl]; rfl
  · rw [if_neg e, if_neg (fun q => e q.symm)]
theorem cI_mem {l : List Int} {k : Nat} (h : k < l.length) : cI l k ∈ l := by
  unfold cI
  rw [List.getElem?_eq_getElem h]
  exact List.getElem_mem h
/-- what a row further adds -/
structure Ste (S j : Nat) (sm s2 : List Int) (le : Int) : Prop where
  len : s2.length = S
  up : ∀ k, k + 1 ≤ j → cI s2 k - cI sm k ≤ cI s2 (k + 1) - cI sm (k + 1)
  at_ : cI s2 j - cI sm j = le
  rest : ∀ k, j < k → cI s2 k = cI sm k
  lo : ∀ k, 0 ≤ cI s2 k - cI sm k
  hi : ∀ k, cI s2 k - cI sm k ≤ le
  le0 : 0 ≤ le
  le1 : le ≤ (j : Int) * 1000000
theorem Ste.start {S : Nat} {sm : List Int} (h : sm.length = S) : Ste S 0 sm sm 0 := ⟨h, fun k hk => by omega, by omega, fun _ _ => rfl, fun k => by omega, fun k => by omega, by decide, by decide⟩
theorem Ste.next {S j : Nat} {sm s2 : List Int} {le x : Int} (h : Ste S j sm s2 le) (hj : j + 1 < S) (x0 : 0 ≤ x) (x1 : x ≤ 1000000) : Ste S (j + 1) sm (s2.set (j + 1) (cI s2 (j + 1) + (le + x))) (le + x) := by
  have hs : j + 1 < s2.length := by rw [h.len]; exact hj
  have hr := h.rest (j + 1) (by omega)
  have l0 := h.le0
  refine ⟨by rw [List.length_set]; exact h.len, fun k hk => ?_, ?_, fun k hk => ?_, fun k => ?_, fun k => ?_, by omega, ?_⟩
  · rw [cI_set hs, cI_set hs, if_neg (by omega)]
    by_cases e : k = j
    · subst e
      rw [if_pos rfl]
      have := h.at_
      omega
    · rw [if_neg (by omega)]
      exact h.up k (by omega)
  · rw [cI_set hs, if_pos rfl]; omega
  · rw [cI_set hs, if_neg (by omega)]
    exact h.rest k (by omega)
  · rw [cI_set hs]
    split
    · rename_i e; subst e; omega
    · exact h.lo k
  · rw [cI_set hs]
    split
    · rename_i e; subst e; omega
    · have := h.hi k; omega
  · have := h.le1
    rw [show ((j + 1 : Nat) : Int) = (j : Int) + 1 from rfl, Int.add_mul]; omega
/-- the rows so far, and the sums for the next one -/
structure Bnt (S : Nat) (L T : List Int) (t : List (List Int)) (sm : List Int) : Prop where
  len : sm.length = S
  row : ∀ r ∈ t, r.length = S
  up : ∀ i k, i + 1 < t.length → k + 1 < S → 0 ≤ sk (Row t i) (Row t (i + 1)) k
  last : 0 < t.length → ∃ s' : List Int, (∀ k, k < S → cI (Row t (t.length - 1)) k = cI L (t.length - 1) + cI T k - cI s' k) ∧ ∀ k, k + 1 < S → cI sm k - cI s' k ≤ cI sm (k + 1) - cI s' (k + 1)
  lo : ∀ k, 0 ≤ cI sm k
  hi : ∀ k, cI sm k ≤ (t.length : Int) * 12000000
  bd : Bd 1000000000 t
theorem Row_app {t : List (List Int)} {r : List Int} {i : Nat} : Row (t ++ [r]) i = if i < t.length then Row t i else if i = t.length then r else [] := by
  unfold k69.Row
  by_cases h : i < t.length
  · rw [if_pos h, List.getElem?_append_left h]
  · rw [if_neg h, List.getElem?_append_right (by omega)]
    by_cases e : i = t.length
    · rw [if_pos e, e, Nat.sub_self]; rfl
    · rw [if_neg e, List.getElem?_eq_none (by rw [List.length_singleton]; omega)]; rfl
def newRow (S : Nat) (L T sm : List Int) (i : Nat) : List Int := (List.range S).map fun k => cI L i + cI T k - cI sm k
theorem Bnt.next {S : Nat} {L T : List Int} {t : List (List Int)} {sm s2 : List Int} {le : Int} (h : Bnt S L T t sm) (hS : 1 ≤ S) (hS2 : S ≤ 12) (ht : t.length < 12) (hL : t.length < L.length) (hT : T.length = S) (bL : ∀ x ∈ L, -400000000 ≤ x ∧ x ≤ 400000000) (bT : ∀ x ∈ T, -400000000 ≤ x ∧ x ≤ 400000000)
    (st : Ste S (S - 1) sm s2 le) : Bnt S L T (t ++ [newRow S L T sm t.length]) s2 := by
  have tl : (t ++ [newRow S L T sm t.length]).length = t.length + 1 := by rw [List.length_append]; rfl
  have nr : ∀ k, k < S → cI (newRow S L T sm t.length) k = cI L t.length + cI T k - cI sm k := fun k hk => cI_range hk
  refine ⟨st.len, fun r hr => ?_, fun i k hi hk => ?_, fun _ => ⟨sm, fun k hk => ?_, fun k hk => st.up k (by omega)⟩, fun k => ?_, fun k => ?_, fun r hr x hx => ?_⟩
  · rcases List.mem_append.mp hr with q | q
    · exact h.row r q
    · rw [List.mem_singleton.mp q]; unfold newRow; rw [List.length_map, List.length_range]
  · rw [tl] at hi
    rw [Row_app, Row_app]
    by_cases e : i + 1 < t.length
    · rw [if_pos e, if_pos (by omega)]
      exact h.up i k e hk
    · have e2 : i + 1 = t.length := by omega
      rw [if_neg e, if_pos (by omega), if_pos e2]
      obtain ⟨s', h1, h2⟩ := h.last (by omega)
      have e3 : t.length - 1 = i := by omega
      rw [e3] at h1
      have := h2 k hk
      unfold sk
      rw [h1 (k + 1) hk, h1 k (by omega), nr k (by omega), nr (k + 1) hk]
      omega
  · rw [tl, Nat.add_sub_cancel, Row_app, if_neg (Nat.lt_irrefl _), if_pos rfl]
    exact nr k hk
  · have := st.lo k; have := h.lo k; omega
  · have a1 := st.hi k
    have a2 := h.hi k
    have a3 := st.le1
    have a4 : (((S - 1 : Nat) : Int)) * 1000000 ≤ 11 * 1000000 := Int.mul_le_mul_of_nonneg_right (by omega) (by decide)
    rw [tl, show ((t.length + 1 : Nat) : Int) = (t.length : Int) + 1 from rfl, Int.add_mul]
    omega
  · rcases List.mem_append.mp hr with q | q
    · exact h.bd r q x hx
    · rw [List.mem_singleton.mp q] at hx
      obtain ⟨k, hk, rfl⟩ := List.mem_map.mp hx
      have hk := List.mem_range.mp hk
      have b1 := bL _ (cI_mem hL)
      have b2 := bT _ (cI_mem (show k < T.length by omega))
      have b3 := h.lo k
      have b4 := h.hi k
      have b5 : (t.length : Int) * 12000000 ≤ 11 * 12000000 := Int.mul_le_mul_of_nonneg_right (by omega) (by decide)
      omega
def BendingR (ds : List D) (C : CM) (P : D → CM → Prop) : Prop := ∃ a b, ∃ r s : Nat, ds = [.ref a, .int (r : Int), .int (s : Int)] ∧ 1 ≤ r ∧ r ≤ 12 ∧ 1 ≤ s ∧ s ≤ 12 ∧ Deck a b C ∧ ∀ t C', WF t s → t.length = r → Bd 1000000000 t → Up s t → Deck a b C' → P (tbD t) C'
set_option maxHeartbeats 4000000 in
theorem bending_ok (hd : Sp tb "_law_draw" 1 DrawR) (he : Sp tb "_law_edge" 3 EdgeR) (hs : Sp tb "_law_slack" 2 SlackR) (hn : 3 ≤ n) {r s : Nat} (r1 : 1 ≤ r) (r2 : r ≤ 12) (s1 : 1 ≤ s) (s2 : s ≤ 12) (hD : Deck a b C)
    (k : ∀ t C', WF t s → t.length = r → Bd 1000000000 t → Up s t → Deck a b C' → P (tbD t) C') : denF ⟨Gm tb n, ex⟩ i_law_bending [.ref a, .int (r : Int), .int (s : Int)] C P := by
  refine ⟨rfl, ?_⟩
  simp_all_arith! [i_law_bending]
  refine use_draw hd (by omega) hD (by decide) (by decide) fun kd C1 k0 k1 hD1 _ => ?_
  simp_all_arith! []
  refine use_draw hd (by omega) hD1 (by decide) (by decide) fun fl C2 _ _ hD2 _ => ?_
  simp_all_arith! []
  refine he n hn _ _ _ _ ⟨a, b, kd, r, rfl, k0, k1, r2, hD2, fun L C3 lL bL hD3 => ?_⟩
  simp_all_arith! []
  refine he n hn _ _ _ _ ⟨a, b, kd, s, rfl, k0, k1, s2, hD3, fun T C4 lT bT hD4 => ?_⟩
  simp_all_arith! [rangeD_map]
  refine ⟨by omega, by omega, by omega, ?_⟩
  simp_all_arith! [rangeD_map]
  refine ⟨by omega, by omega, ?_⟩
  have e0 : (List.replicate s [D.int 0]).flatten = (List.replicate s (0 : Int)).map .int := by
    rw [List.map_replicate]
    induction s with
    | zero => rfl
    | succ s _ => simp
  rw [e0]
  have b0 : Bnt s L T [] (List.replicate s 0) := ⟨List.length_replicate, (by intro z hz; cases hz), fun i k hi => by simp at hi, fun h => by simp at h, fun k => by
    unfold cI
    rw [List.getElem?_replicate]
    split <;> exact Int.le_refl _, fun k => by
    unfold cI
    rw [List.getElem?_replicate]
    split <;> decide, (by intro z hz; cases hz)⟩
  refine for_m (fun i : Nat => .int (i : Int)) [7, 8, 9, 10, 11, 12] (fun done ys C' => ∃ (t : List (List Int)) (sm : List Int) (x9 x10 x11 x12 : Option Dv), ys = [some (.own (sm.map .int)), some (.own (t.map rD)), x9, x10, x11, x12] ∧ t.length = done.length ∧ Bnt s L T t sm ∧ Deck a b C') [some (.own ((List.replicate s (0 : Int)).map .int)), some (.own ([].map rD)), none, none, none, none] rfl
    ⟨[], _, _, _, _, _, rfl, rfl, b0, hD4⟩ (fun done j rest ys C5 e ⟨t, sm, x9, x10, x11, x12, hy, htl, hB, hD5⟩ nx knx => ?_) fun ys C5 ⟨t, sm, x9, x10, x11, x12, hy, htl, hB, hD5⟩ => ?_
  · subst hy
    have hj : j = done.length ∧ done.length < r := by
      have hz : (List.range r).length = done.length + (rest.length + 1) := by rw [e, List.length_append, List.length_cons]
      rw [List.length_range] at hz
      have : (List.range r)[done.length]? = some j := by rw [e, List.getElem?_append_right (Nat.le_refl _), Nat.sub_self]; rfl
      rw [List.getElem?_range (by omega)] at this
      exact ⟨(Option.some.inj this).symm, by omega⟩
    obtain ⟨rfl, hj2⟩ := hj
    have smL := hB.len
    simp_all_arith! [rangeD_map]
    refine ⟨by omega, by omega, ?_⟩
    refine for_m (fun i : Nat => .int (i : Int)) [11, 12] (fun dn ys C' => ∃ x12 : Option Dv, ys = [some (.own ((dn.map fun k => cI L done.length + cI T k - cI sm k).map .int)), x12] ∧ C' = C5) [some (.own []), _] rfl ⟨_, rfl, rfl⟩ (fun dn i rst ys C6 e2 ⟨x12, hy, hc⟩ nx2 knx2 => ?_) fun ys C6 ⟨x12, hy, hc⟩ => ?_
    · subst hy hc
      have hi : i < s := List.mem_range.mp (by rw [e2]; exact List.mem_append_right _ List.mem_cons_self)
      have hdn : dn.length < 12 := by
        have := congrArg List.length e2
        rw [List.length_range, List.length_append, List.length_cons] at this; omega
      simp_all_arith! [at_cell (show done.length < L.length by omega), at_cell (show i < T.length by omega), at_cell (show i < sm.length by omega)]
      refine ⟨by omega, ?_⟩
      simp_all_arith! []
      have em : ((dn.map fun k => cI L done.length + cI T k - cI sm k).map D.int) ++ [.int (cI L done.length + cI T i - cI sm i)] = ((dn ++ [i]).map fun k => cI L done.length + cI T k - cI sm k).map .int := by rw [List.map_append, List.map_append]; rfl
      rw [em]
      exact knx2 [_, _] _ ⟨_, rfl, rfl⟩
    · subst hy hc
      simp_all_arith! []
      refine ⟨by omega, ?_⟩
      have e1 : ((s : Int) - 1).toNat = s - 1 := by omega
      simp_all_arith! [e1, B8.range1_map]
      refine ⟨⟨by omega, by omega, by omega, by omega⟩, ?_⟩
      have er : (List.range s).map (fun k => cI L done.length + cI T k - cI sm k) = newRow s L T sm t.length := by unfold newRow; rw [htl]
      have em : t.map rD ++ [D.tup (((List.range s).map fun k => cI L done.length + cI T k - cI sm k).map .int)] = (t ++ [newRow s L T sm t.length]).map rD := by rw [er, List.map_append]; rfl
      rw [em]
      refine for_m (fun i : Nat => .int ((i + 1 : Nat) : Int)) [7, 10, 12] (fun dn ys C' => ∃ (z : List Int) (le : Int) (x12 : Option Dv), ys = [some (.own (z.map .int)), some (.dat (.int le)), x12] ∧ Ste s dn.length sm z le ∧ Deck a b C') [some (.own (sm.map .int)), some (.dat (.int 0)), _] rfl ⟨sm, 0, _, rfl, Ste.start smL, hD5⟩ (fun dn i rst ys C7 e2 ⟨z, le, x12, hy, hst, hD7⟩ nx2 knx2 => ?_) fun ys C7 ⟨z, le, x12, hy, hst, hD7⟩ => ?_
      · subst hy
        have hi : i = dn.length ∧ dn.length + 1 < s := by
          have hz : (List.range (s - 1)).length = dn.length + (rst.length + 1) := by rw [e2, List.length_append, List.length_cons]
          rw [List.length_range] at hz
          have : (List.range (s - 1))[dn.length]? = some i := by rw [e2, List.getElem?_append_right (Nat.le_refl _), Nat.sub_self]; rfl
          rw [List.getElem?_range (by omega)] at this
          exact ⟨(Option.some.inj this).symm, by omega⟩
        obtain ⟨rfl, hi2⟩ := hi
        have zl : dn.length + 1 < z.length := by rw [hst.len]; exact hi2
        have hix : ixN z.length ((dn.length + 1 : Nat) : Int) = some (dn.length + 1) := by
          unfold ixN
          rw [if_pos (by omega), if_pos (by omega), Int.toNat_natCast]
        simp_all_arith! []
        refine hs n (by omega) _ _ _ _ ⟨a, b, fl, rfl, hD7, fun x C8 x0 x1 hD8 => ?_⟩
        simp_all_arith! [at_cell zl]
        refine ⟨_, hix, ?_⟩
        have es : (z.map D.int).set (dn.length + 1) (.int (cI z (dn.length + 1) + (le + x))) = (z.set (dn.length + 1) (cI z (dn.length + 1) + (le + x))).map .int := by rw [List.map_set]
        simp_all_arith! [es]
        refine knx2 [_, _, _] C8 ⟨_, _, _, rfl, ?_, hD8⟩
        rw [List.length_append, List.length_singleton]
        exact hst.next hi2 x0 x1
      · subst hy
        rw [List.length_range] at hst
        simp_all_arith! []
        exact knx [_, _, _, _, _, _] C7 ⟨t ++ [newRow s L T sm t.length], z, _, _, _, _, rfl, by rw [List.length_append, List.length_append, htl]; rfl, hB.next s1 s2 (by omega) (by omega) lT bL bT hst, hD7⟩
  · subst hy
    rw [List.length_range] at htl
    simp_all_arith! []
    exact ⟨C5, sub_refl _, k t C5 ⟨by omega, by omega, s1, s2, hB.row⟩ htl hB.bd hB.up hD5⟩
end
end M61.B31

set_option Elab.async false
set_option linter.all false
set_option autoImplicit false
set_option maxRecDepth 100000
/-! P24: chains of tables; ways. -/
namespace M61.B31
open PySem PySem.Spec PyProof.Rows L2
local macro_rules
  | `(tactic| simp_arith! [$ls,*] $[$loc:location]?) => `(tactic| try simp only [wipeR_cons, wipeR_nil, eq_self, denE, denT, denEs, denO, denC, denI, bindT_nm, bindT_tp, bindT_tl, bindTs_nil, bindTs_cons, varD_0, varD_s, varM_own0, varM_dat0, varM_s, varO_0, varO_s, varL_own0, varL_ref0, varL_s, sz, cp1, cp2, cp3, cp4, cp5, cp6, cp7, cp8, cp9, cp10, cp11, cp12, cp15, cp18, add_i, add_t, add_l, add_s, add_b, sub_b, sub_i, mul_i, mul_t, mul_l, fdiv_i, mod_i, pow_i, shl_i, eq_r, ne_r, inn_t, nin_t, inn_l, nin_l, lt_r, lt_tt, le_r, gt_r, ge_r, is_n, isn_n, is_b, isn_b, isNon_n, isNon_i, isNon_t, isNon_l, isNon_b, isNon_s, tru_n, tru_b, tru_i, tru_t, tru_l, ix_t, ix_l, ix_c, ix_r, cellAt_l, cellL_l, lstD_l, lstD_r, sqD_t, sqD_l, sl_t, sl_l, sl_c, sl_r, rev_t, rev_l, len_t, len_l, len_c, len_r, tup_t, tup_l, tup_r, sum_t, sum_l, sum_r, min_t, min_l, max_t, max_l, min_2, max_2, min_3, repr_r, str_ri, abs_i, int_i, int_b, all_l, any_l, ty_bb, ty_bi, ty_bn, ty_bt, ty_ss, ty_sn, ty_si, ty_sb, ty_ii, ty_ib, ty_in, ty_it, ty_tt, ty_tn, ty_ti, ty_tb, ty_ll, ty_lt, ty_is, ty_il, ty_bs, ty_blst, ty_st, ty_sl, ty_ts, ty_tl, ty_ln, ty_li, ty_lb, ty_ls, intsOf_map, boolsOf_map, pair_Cmp, int_Cmp, bl_Cmp, non_Cmp, ints_Cmp, intst_Cmp, eqv_int, eqv_bl, eqv_ints, eqv_intst, List.map_cons, List.map_nil, List.replicate_succ, List.replicate_zero, List.cons_append, List.nil_append, List.set_cons_zero, List.set_cons_succ, List.length_cons, List.length_nil, List.getElem?_cons_zero, List.getElem?_cons_succ, List.eraseIdx_cons_zero, Nat.reduceSub, Nat.reduceAdd, Nat.reduceLT, Nat.reduceLeDiff, Nat.reducePow, Nat.reduceEqDiff, Nat.reduceMul, Int.reducePow, Int.reduceToNat, Int.reduceMul, Int.reduceAdd, Int.reduceSub, Int.reduceNeg, Int.reduceLT, Int.reduceLE, Int.reduceEq, Int.reduceBEq, Int.reduceBNe, zero_add', not_true_eq_false, not_false_eq_true, Bool.true_eq_false, false_and, and_false, true_and, and_true, exists_eq_left', exists_and_left, Option.some.injEq, Cell.lst.injEq, Cell.dct.injEq, if_pos_true, reduceIte, Bool.false_eq_true, decide_true, decide_false, Bool.not_true, Bool.not_false, Bool.not_eq_true', Bool.and_true, Bool.true_and, decide_eq_true_eq, decide_eq_false_iff_not, ite_self, List.isEmpty_cons, List.isEmpty_nil, ss_nil', ss_cons', s_set', s_own', s_setF', s_unp', s_par2', par2K_e, s_par3', par3K_e, s_app', s_ext', extK_e, s_exp', s_csub', csubK_e, s_dset', dsetK_e, s_capp', cappK_e, s_aug', augK_a, augK_s, s_oset', osetK_e, s_ife', s_for', s_forc', forcK_e, s_whl', s_ret', s_ret0', s_pass', s_brk', s_cnt', l_comp', l_compc', compcK_e, l_lit', l_cat', l_rvd', l_lrv', l_ls2', l_list', l_srt', srtK_e, l_srr', srrK_e, l_lrg1', l_lrg2', lrgK_e, l_rep', repK_e, setM_nil, setM_cons, Int.toNat_natCast, List.length_map, exists_eq_left, $ls,*] $[$loc]?)
local macro_rules
  | `(tactic| simp_all_arith! [$ls,*]) => `(tactic| ((try simp only [wipeR_cons, wipeR_nil, eq_self, denE, denT, denEs, denO, denC, denI, bindT_nm, bindT_tp, bindT_tl, bindTs_nil, bindTs_cons, varD_0, varD_s, varM_own0, varM_dat0, varM_s, varO_0, varO_s, varL_own0, varL_ref0, varL_s, sz, cp1, cp2, cp3, cp4, cp5, cp6, cp7, cp8, cp9, cp10, cp11, cp12, cp15, cp18, add_i, add_t, add_l, add_s, add_b, sub_b, sub_i, mul_i, mul_t, mul_l, fdiv_i, mod_i, pow_i, shl_i, eq_r, ne_r, inn_t, nin_t, inn_l, nin_l, lt_r, lt_tt, le_r, gt_r, ge_r, is_n, isn_n, is_b, isn_b, isNon_n, isNon_i, isNon_t, isNon_l, isNon_b, isNon_s, tru_n, tru_b, tru_i, tru_t, tru_l, ix_t, ix_l, ix_c, ix_r, cellAt_l, cellL_l, lstD_l, lstD_r, sqD_t, sqD_l, sl_t, sl_l, sl_c, sl_r, rev_t, rev_l, len_t, len_l, len_c, len_r, tup_t, tup_l, tup_r, sum_t, sum_l, sum_r, min_t, min_l, max_t, max_l, min_2, max_2, min_3, repr_r, str_ri, abs_i, int_i, int_b, all_l, any_l, ty_bb, ty_bi, ty_bn, ty_bt, ty_ss, ty_sn, ty_si, ty_sb, ty_ii, ty_ib, ty_in, ty_it, ty_tt, ty_tn, ty_ti, ty_tb, ty_ll, ty_lt, ty_is, ty_il, ty_bs, ty_blst, ty_st, ty_sl, ty_ts, ty_tl, ty_ln, ty_li, ty_lb, ty_ls, intsOf_map, boolsOf_map, pair_Cmp, int_Cmp, bl_Cmp, non_Cmp, ints_Cmp, intst_Cmp, eqv_int, eqv_bl, eqv_ints, eqv_intst, List.map_cons, List.map_nil, List.replicate_succ, List.replicate_zero, List.cons_append, List.nil_append, List.set_cons_zero, List.set_cons_succ, List.length_cons, List.length_nil, List.getElem?_cons_zero, List.getElem?_cons_succ, List.eraseIdx_cons_zero, Nat.reduceSub, Nat.reduceAdd, Nat.reduceLT, Nat.reduceLeDiff, Nat.reducePow, Nat.reduceEqDiff, Nat.reduceMul, Int.reducePow, Int.reduceToNat, Int.reduceMul, Int.reduceAdd, Int.reduceSub, Int.reduceNeg, Int.reduceLT, Int.reduceLE, Int.reduceEq, Int.reduceBEq, Int.reduceBNe, zero_add', not_true_eq_false, not_false_eq_true, Bool.true_eq_false, false_and, and_false, true_and, and_true, exists_eq_left', exists_and_left, Option.some.injEq, Cell.lst.injEq, Cell.dct.injEq, if_pos_true, reduceIte, Bool.false_eq_true, decide_true, decide_false, Bool.not_true, Bool.not_false, Bool.not_eq_true', Bool.and_true, Bool.true_and, decide_eq_true_eq, decide_eq_false_iff_not, ite_self, List.isEmpty_cons, List.isEmpty_nil, ss_nil', ss_cons', s_set', s_own', s_setF', s_unp', s_par2', par2K_e, s_par3', par3K_e, s_app', s_ext', extK_e, s_exp', s_csub', csubK_e, s_dset', dsetK_e, s_capp', cappK_e, s_aug', augK_a, augK_s, s_oset', osetK_e, s_ife', s_for', s_forc', forcK_e, s_whl', s_ret', s_ret0', s_pass', s_brk', s_cnt', l_comp', l_compc', compcK_e, l_lit', l_cat', l_rvd', l_lrv', l_ls2', l_list', l_srt', srtK_e, l_srr', srrK_e, l_lrg1', l_lrg2', lrgK_e, l_rep', repK_e, setM_nil, setM_cons, Int.toNat_natCast, List.length_map, exists_eq_left, $ls,*]); (repeat ((with_reducible (first | refine blk_of ?_ | refine turn_of ?_ | refine tst_of ?_)); (try simp only [wipeR_cons, wipeR_nil, eq_self, denE, denT, denEs, denO, denC, denI, bindT_nm, bindT_tp, bindT_tl, bindTs_nil, bindTs_cons, varD_0, varD_s, varM_own0, varM_dat0, varM_s, varO_0, varO_s, varL_own0, varL_ref0, varL_s, sz, cp1, cp2, cp3, cp4, cp5, cp6, cp7, cp8, cp9, cp10, cp11, cp12, cp15, cp18, add_i, add_t, add_l, add_s, add_b, sub_b, sub_i, mul_i, mul_t, mul_l, fdiv_i, mod_i, pow_i, shl_i, eq_r, ne_r, inn_t, nin_t, inn_l, nin_l, lt_r, lt_tt, le_r, gt_r, ge_r, is_n, isn_n, is_b, isn_b, isNon_n, isNon_i, isNon_t, isNon_l, isNon_b, isNon_s, tru_n, tru_b, tru_i, tru_t, tru_l, ix_t, ix_l, ix_c, ix_r, cellAt_l, cellL_l, lstD_l, lstD_r, sqD_t, sqD_l, sl_t, sl_l, sl_c, sl_r, rev_t, rev_l, len_t, len_l, len_c, len_r, tup_t, tup_l, tup_r, sum_t, sum_l, sum_r, min_t, min_l, max_t, max_l, min_2, max_2, min_3, repr_r, str_ri, abs_i, int_i, int_b, all_l, any_l, ty_bb, ty_bi, ty_bn, ty_bt, ty_ss, ty_sn, ty_si, ty_sb, ty_ii, ty_ib, ty_in, ty_it, ty_tt, ty_tn, ty_ti, ty_tb, ty_ll, ty_lt, ty_is, ty_il, ty_bs, ty_blst, ty_st, ty_sl, ty_ts, ty_tl, ty_ln, ty_li, ty_lb, ty_ls, intsOf_map, boolsOf_map, pair_Cmp, int_Cmp, bl_Cmp, non_Cmp, ints_Cmp, intst_Cmp, eqv_int, eqv_bl, eqv_ints, eqv_intst, List.map_cons, List.map_nil, List.replicate_succ, List.replicate_zero, List.cons_append, List.nil_append, List.set_cons_zero, List.set_cons_succ, List.length_cons, List.length_nil, List.getElem?_cons_zero, List.getElem?_cons_succ, List.eraseIdx_cons_zero, Nat.reduceSub, Nat.reduceAdd, Nat.reduceLT, Nat.reduceLeDiff, Nat.reducePow, Nat.reduceEqDiff, Nat.reduceMul, Int.reducePow, Int.reduceToNat, Int.reduceMul, Int.reduceAdd, Int.reduceSub, Int.reduceNeg, Int.reduceLT, Int.reduceLE, Int.reduceEq, Int.reduceBEq, Int.reduceBNe, zero_add', not_true_eq_false, not_false_eq_true, Bool.true_eq_false, false_and, and_false, true_and, and_true, exists_eq_left', exists_and_left, Option.some.injEq, Cell.lst.injEq, Cell.dct.injEq, if_pos_true, reduceIte, Bool.false_eq_true, decide_true, decide_false, Bool.not_true, Bool.not_false, Bool.not_eq_true', Bool.and_true, Bool.true_and, decide_eq_true_eq, decide_eq_false_iff_not, ite_self, List.isEmpty_cons, List.isEmpty_nil, ss_nil', ss_cons', s_set', s_own', s_setF', s_unp', s_par2', par2K_e, s_par3', par3K_e, s_app', s_ext', extK_e, s_exp', s_csub', csubK_e, s_dset', dsetK_e, s_capp', cappK_e, s_aug', augK_a, augK_s, s_oset', osetK_e, s_ife', s_for', s_forc', forcK_e, s_whl', s_ret', s_ret0', s_pass', s_brk', s_cnt', l_comp', l_compc', compcK_e, l_lit', l_cat', l_rvd', l_lrv', l_ls2', l_list', l_srt', srtK_e, l_srr', srrK_e, l_lrg1', l_lrg2', lrgK_e, l_rep', repK_e, setM_nil, setM_cons, Int.toNat_natCast, List.length_map, exists_eq_left, $ls,*])))))
open M61.k69 (Row cI WF Row_mem rD tbD at_row at_cell)
open M61.MP
/-- tables that fit, and their product -/
inductive Ch : List (List (List Int)) → Nat → List (List Int) → Prop
  | one {T : List (List Int)} {w : Nat} : WF T w → Ch [T] w T
  | cons {T : List (List Int)} {v : Nat} {ts : List (List (List Int))} {w : Nat} {M : List (List Int)} : WF T v → Ch ts w M → v = M.length → Ch (T :: ts) w (prod w T M)
theorem Ch.wf {ts : List (List (List Int))} {w : Nat} {M : List (List Int)} (h : Ch ts w M) : WF M w := by
  induction h with
  | one h => exact h
  | cons h _ _ ih => exact prod_wf h ih.w1 ih.w2
theorem Ch.inv {T : List (List Int)} {ts : List (List (List Int))} {w : Nat} {M : List (List Int)} (h : Ch (T :: ts) w M) : (ts = [] ∧ M = T ∧ WF T w) ∨ ∃ v M', WF T v ∧ Ch ts w M' ∧ v = M'.length ∧ M = prod w T M' := by
  cases h with
  | one h => exact .inl ⟨rfl, rfl, h⟩
  | cons h1 h2 h3 => exact .inr ⟨_, _, h1, h2, h3, rfl⟩
theorem Ch.ne {ts : List (List (List Int))} {w : Nat} {M : List (List Int)} (h : Ch ts w M) : ts ≠ [] := by cases h <;> simp
theorem Ch.len {T : List (List Int)} {ts : List (List (List Int))} {w : Nat} {M : List (List Int)} (h : Ch (T :: ts) w M) : M.length = T.length := by
  rcases h.inv with ⟨_, e, _⟩ | ⟨_, _, _, _, _, e⟩
  · rw [e]
  · rw [e, prod_len]
theorem Ch.hd {T : List (List Int)} {ts : List (List (List Int))} {w : Nat} {M : List (List Int)} (h : Ch (T :: ts) w M) : ∃ v, WF T v := by
  rcases h.inv with ⟨_, _, e⟩ | ⟨v, _, e, _⟩
  · exact ⟨_, e⟩
  · exact ⟨v, e⟩
theorem Ch.mem {ts : List (List (List Int))} {w : Nat} {M : List (List Int)} (h : Ch ts w M) : ∀ T ∈ ts, ∃ v, WF T v := by
  induction h with
  | one h => intro T hT; rw [List.mem_singleton.mp hT]; exact ⟨_, h⟩
  | cons h _ _ ih =>
    intro T hT
    rcases List.mem_cons.mp hT with e | hT
    · rw [e]; exact ⟨_, h⟩
    · exact ih T hT
theorem Ch.single {T : List (List Int)} {w : Nat} {M : List (List Int)} (h : Ch [T] w M) : M = T ∧ WF T w := by
  rcases h.inv with ⟨_, e, e2⟩ | ⟨_, _, _, e, _⟩
  · exact ⟨e, e2⟩
  · exact absurd rfl e.ne
/-- two neighbours become one -/
theorem Ch.merge {A B : List (List Int)} {ys : List (List (List Int))} {w : Nat} : ∀ {xs : List (List (List Int))} {M : List (List Int)}, Ch (xs ++ A :: B :: ys) w M → ∃ u v, WF A u ∧ WF B v ∧ u = B.length ∧ Ch (xs ++ prod v A B :: ys) w M
  | [], M, h => by
    rcases Ch.inv h with ⟨e, _⟩ | ⟨u, M2, WA, h2, fit, e⟩
    · cases e
    · subst e
      rcases h2.inv with ⟨e, e2, WB⟩ | ⟨v, M3, WB, h3, fit2, e⟩
      · subst e e2
        exact ⟨u, w, WA, WB, fit, .one (prod_wf WA WB.w1 WB.w2)⟩
      · subst e
        rw [prod_len] at fit
        refine ⟨u, v, WA, WB, fit, ?_⟩
        rw [← prod_assoc WA WB h3.wf fit fit2]
        exact .cons (prod_wf WA WB.w1 WB.w2) h3 fit2
  | x :: xs, M, h => by
    rcases Ch.inv (T := x) h with ⟨e, _⟩ | ⟨u, M2, Wx, h2, fit, e⟩
    · cases xs <;> cases e
    · subst e
      obtain ⟨u', v, a1, a2, a3, a4⟩ := Ch.merge h2
      exact ⟨u', v, a1, a2, a3, .cons Wx a4 fit⟩
/-! ### ways -/
/-- the sum along a way from x by the steps p -/
def psum (T : List (List Int)) : Nat → List Nat → Int
  | _, [] => 0
  | x, y :: p => cI (Row T x) y + psum T y p
def lastN : Nat → List Nat → Nat
  | x, [] => x
  | _, y :: p => lastN y p
theorem psum_app (T : List (List Int)) : ∀ (p q : List Nat) (x : Nat), psum T x (p ++ q) = psum T x p + psum T (lastN x p) q
  | [], q, x => by show psum T x q = 0 + psum T x q; omega
  | y :: p, q, x => by
    show cI (Row T x) y + psum T y (p ++ q) = cI (Row T x) y + psum T y p + psum T (lastN y p) q
    rw [psum_app T p q y]; omega
theorem lastN_app : ∀ (p q : List Nat) (x : Nat), lastN x (p ++ q) = lastN (lastN x p) q
  | [], q, x => rfl
  | y :: p, q, x => lastN_app p q y
theorem pwr_left {w : Nat} {t : List (List Int)} (s : Sq w t) (n : Nat) : pwr w t (n + 1) = prod w t (pwr w t n) := by
  have := pwr_add s 0 n
  rw [show 0 + n + 1 = n + 1 by omega] at this
  exact this.symm
theorem pwr_le {w : Nat} {t : List (List Int)} (s : Sq w t) {n x y z : Nat} (hx : x < w) (hy : y < w) (hz : z < w) : cI (Row (pwr w t (n + 1)) x) z ≤ cI (Row t x) y + cI (Row (pwr w t n) y) z := by
  have sn := pwr_sq s n
  rw [pwr_left s, prod_at (by rw [s.2]; exact hx) hz]
  have := ms_le (r := Row t x) (c := colL (pwr w t n) z) (j := y) (by rw [s.1.rl (by rw [s.2]; exact hx), colL_len, sn.2]) (by rw [s.1.rl (by rw [s.2]; exact hx)]; exact hy)
  rw [colL_at (by rw [sn.2]; exact hy)] at this
  exact this
theorem pwr_at {w : Nat} {t : List (List Int)} (s : Sq w t) {n x z : Nat} (hx : x < w) (hz : z < w) : ∃ y, y < w ∧ cI (Row (pwr w t (n + 1)) x) z = cI (Row t x) y + cI (Row (pwr w t n) y) z := by
  have sn := pwr_sq s n
  have rl := s.1.rl (i := x) (by rw [s.2]; exact hx)
  rw [pwr_left s, prod_at (by rw [s.2]; exact hx) hz]
  obtain ⟨y, hy, e⟩ := ms_at (r := Row t x) (c := colL (pwr w t n) z) (by rw [rl, colL_len, sn.2]) (by rw [rl]; exact s.1.w1)
  rw [rl] at hy
  rw [colL_at (by rw [sn.2]; exact hy)] at e
  exact ⟨y, hy, e⟩
theorem pwr_add_le {w : Nat} {t : List (List Int)} (s : Sq w t) {a b x y z : Nat} (hx : x < w) (hy : y < w) (hz : z < w) : cI (Row (pwr w t (a + b + 1)) x) z ≤ cI (Row (pwr w t a) x) y + cI (Row (pwr w t b) y) z := by
  have sa := pwr_sq s a
  have sb := pwr_sq s b
  rw [← pwr_add s, prod_at (by rw [sa.2]; exact hx) hz]
  have := ms_le (r := Row (pwr w t a) x) (c := colL (pwr w t b) z) (j := y) (by rw [sa.1.rl (by rw [sa.2]; exact hx), colL_len, sb.2]) (by rw [sa.1.rl (by rw [sa.2]; exact hx)]; exact hy)
  rw [colL_at (by rw [sb.2]; exact hy)] at this
  exact this
/-- no way is shorter than the power tells -/
theorem psum_ge {w : Nat} {t : List (List Int)} (s : Sq w t) : ∀ (p : List Nat) (x : Nat), x < w → (∀ y ∈ p, y < w) → p ≠ [] → cI (Row (pwr w t (p.length - 1)) x) (lastN x p) ≤ psum t x p
  | [], _, _, _, h => absurd rfl h
  | [y], x, hx, hp, _ => by
    show cI (Row t x) y ≤ cI (Row t x) y + 0
    omega
  | y :: z :: p, x, hx, hp, _ => by
    have h1 := psum_ge s (z :: p) y (hp y List.mem_cons_self) (fun q hq => hp q (List.mem_cons_of_mem _ hq)) (by simp)
    have hl : lastN y (z :: p) < w := by
      have : ∀ (p : List Nat) (x : Nat), x < w → (∀ y ∈ p, y < w) → lastN x p < w := fun p => by
        induction p with
        | nil => exact fun x h _ => h
        | cons y p ih => exact fun x _ h => ih y (h y List.mem_cons_self) fun q hq => h q (List.mem_cons_of_mem _ hq)
      exact this _ y (hp y List.mem_cons_self) fun q hq => hp q (List.mem_cons_of_mem _ hq)
    have h2 := pwr_le s (n := p.length) hx (hp y List.mem_cons_self) hl
    show cI (Row (pwr w t (p.length + 1)) x) (lastN y (z :: p)) ≤ cI (Row t x) y + psum t y (z :: p)
    have h1 : cI (Row (pwr w t p.length) y) (lastN y (z :: p)) ≤ psum t y (z :: p) := h1
    omega
def iis_whole : Def := ⟨1, 1,
  (.cons (.ret (.and (.isi (.var 0) .int) (.not (.isi (.var 0) .bool))))
  .nil)⟩
def isums_to : Def := ⟨3, 8,
  (.cons (.own 3 (.lit (.cons (.frz (.comp [6] (.ix (.var 6) (.var 2)) (.nm 6) (.seq (.var 0)) .no)) .nil)))
  (.cons (.for (.nm 4) (.rng1 (.bin .sub (.var 1) (.int 1))) (.cons (.set 5 (.oix 3 (.neg (.int 1))))
  (.cons (.app 3 (.frz (.comp [6] (.blt .min (.cons (.frz (.comp [7] (.bin .add (.ix (.var 6) (.var 7)) (.ix (.var 5) (.var 7))) (.nm 7) (.rng1 (.blt .len (.cons (.var 6) .nil))) .no)) .nil)) (.nm 6) (.seq (.var 0)) .no)))
  .nil)))
  (.cons (.ret (.mv 3))
  .nil)))⟩
def ifirst_way : Def := ⟨4, 10,
  (.cons (.exp (.call "check_square" (.cons (.var 0) .nil)))
  (.cons (.set 4 (.call "sums_to" (.cons (.var 0) (.cons (.var 1) (.cons (.var 3) .nil)))))
  (.cons (.own 5 (.lit (.cons (.var 2) .nil)))
  (.cons (.for (.nm 6) (.rng3 (.bin .sub (.var 1) (.int 1)) (.int 0) (.neg (.int 1))) (.cons (.set 7 (.ix (.var 0) (.oix 5 (.neg (.int 1)))))
  (.cons (.setF 8 (.comp [9] (.bin .add (.ix (.var 7) (.var 9)) (.ix (.ix (.var 4) (.bin .sub (.var 6) (.int 1))) (.var 9))) (.nm 9) (.rng1 (.blt .len (.cons (.var 7) .nil))) .no))
  (.cons (.app 5 (.indx (.var 8) (.blt .min (.cons (.var 8) .nil))))
  .nil))))
  (.cons (.ret (.blt .tuple (.cons (.bin .add (.mv 5) (.frz (.lit (.cons (.var 3) .nil)))) .nil)))
  .nil)))))⟩
def iare_numbers : Def := ⟨2, 3,
  (.cons (.ret (.and (.isi (.var 0) .tuple) (.and (.cmp .eq (.blt .len (.cons (.var 0) .nil)) (.var 1)) (.blt .all (.cons (.frz (.comp [2] (.call "is_whole" (.cons (.var 2) .nil)) (.nm 2) (.seq (.var 0)) .no)) .nil)))))
  .nil)⟩
def iis_full_of : Def := ⟨3, 4,
  (.cons (.ret (.and (.isi (.var 2) .tuple) (.and (.cmp .eq (.blt .len (.cons (.var 2) .nil)) (.var 0)) (.blt .all (.cons (.frz (.comp [3] (.call "are_numbers" (.cons (.var 3) (.cons (.var 1) .nil))) (.nm 3) (.seq (.var 2)) .no)) .nil)))))
  .nil)⟩
def imid_holds : Def := ⟨5, 7,
  (.cons (.ife (.or (.not (.chn .le .lt (.int 0) (.var 4) (.blt .len (.cons (.var 0) .nil)))) (.cmp .ne (.bin .add (.ix (.var 0) (.var 4)) (.ix (.ix (.var 1) (.var 4)) (.var 2))) (.var 3))) (.cons (.ret (.bl false))
  .nil) .nil)
  (.cons (.for (.nm 5) (.rng1 (.blt .len (.cons (.var 0) .nil))) (.cons (.set 6 (.bin .add (.ix (.var 0) (.var 5)) (.ix (.ix (.var 1) (.var 5)) (.var 2))))
  (.cons (.ife (.or (.cmp .lt (.var 6) (.var 3)) (.and (.cmp .eq (.var 6) (.var 3)) (.cmp .lt (.var 5) (.var 4)))) (.cons (.ret (.bl false))
  .nil) .nil)
  .nil)))
  (.cons (.ret (.bl true))
  .nil)))⟩
def iproduct_holds : Def := ⟨3, 7,
  (.cons (.ife (.or (.not (.val (.isi (.var 2) .tuple))) (.cmp .ne (.blt .len (.cons (.var 2) .nil)) (.int 2))) (.cons (.ret (.bl false))
  .nil) .nil)
  (.cons (.set 3 (.blt .len (.cons (.var 0) .nil)))
  (.cons (.set 4 (.blt .len (.cons (.ix (.var 1) (.int 0)) .nil)))
  (.cons (.ife (.or (.not (.val (.call "is_full_of" (.cons (.var 3) (.cons (.var 4) (.cons (.ix (.var 2) (.int 0)) .nil)))))) (.not (.val (.call "is_full_of" (.cons (.var 3) (.cons (.var 4) (.cons (.ix (.var 2) (.int 1)) .nil))))))) (.cons (.ret (.bl false))
  .nil) .nil)
  (.cons (.for (.nm 5) (.rng1 (.var 3)) (.cons (.for (.nm 6) (.rng1 (.var 4)) (.cons (.ife (.not (.val (.call "mid_holds" (.cons (.ix (.var 0) (.var 5)) (.cons (.var 1) (.cons (.var 6) (.cons (.ix (.ix (.ix (.var 2) (.int 0)) (.var 5)) (.var 6)) (.cons (.ix (.ix (.ix (.var 2) (.int 1)) (.var 5)) (.var 6)) .nil)))))))) (.cons (.ret (.bl false))
  .nil) .nil)
  .nil))
  .nil))
  (.cons (.ret (.bl true))
  .nil))))))⟩
def ileast_sum : Def := ⟨4, 8,
  (.cons (.set 4 (.frz (.list (.ix (.var 0) (.var 2)))))
  (.cons (.for (.nm 5) (.rng1 (.bin .sub (.var 1) (.int 1))) (.cons (.setF 4 (.comp [6] (.blt .min (.cons (.frz (.comp [7] (.bin .add (.ix (.var 4) (.var 7)) (.ix (.ix (.var 0) (.var 7)) (.var 6))) (.nm 7) (.rng1 (.blt .len (.cons (.var 0) .nil))) .no)) .nil)) (.nm 6) (.rng1 (.blt .len (.cons (.var 0) .nil))) .no))
  .nil))
  (.cons (.ret (.ix (.var 4) (.var 3)))
  .nil)))⟩
def iway_holds : Def := ⟨5, 9,
  (.cons (.ife (.or (.not (.val (.call "are_numbers" (.cons (.var 4) (.cons (.bin .add (.var 1) (.int 1)) .nil))))) (.or (.cmp .ne (.ix (.var 4) (.int 0)) (.var 2)) (.cmp .ne (.ix (.var 4) (.neg (.int 1))) (.var 3)))) (.cons (.ret (.bl false))
  .nil) .nil)
  (.cons (.ife (.not (.val (.blt .all (.cons (.frz (.comp [6] (.chn .le .lt (.int 0) (.var 6) (.blt .len (.cons (.var 0) .nil))) (.nm 6) (.seq (.var 4)) .no)) .nil)))) (.cons (.ret (.bl false))
  .nil) .nil)
  (.cons (.set 5 (.blt .sum (.cons (.frz (.comp [7, 8] (.ix (.ix (.var 0) (.var 7)) (.var 8)) (.tp (.cons (.nm 7) (.cons (.nm 8) .nil))) (.zip (.sl (.var 4) .no (.yes (.neg (.int 1)))) (.sl (.var 4) (.yes (.int 1)) .no)) .no)) .nil)))
  (.cons (.ret (.cmp .eq (.var 5) (.call "least_sum" (.cons (.var 0) (.cons (.var 1) (.cons (.var 2) (.cons (.var 3) .nil)))))))
  .nil))))⟩
def i_law_through : Def := ⟨1, 8,
  (.cons (.own 1 (.lit .nil))
  (.cons (.for (.nm 2) (.rng1 (.blt .len (.cons (.ix (.var 0) (.int 0)) .nil))) (.cons (.set 3 (.cel (.rep (.frz (.lit (.cons .non .nil))) (.blt .len (.cons (.ix (.var 0) (.int 0)) .nil)))))
  (.cons (.csub (.var 3) (.var 2) (.int 0))
  (.cons (.for (.nm 4) (.seq (.var 0)) (.cons (.set 5 (.cel (.lit .nil)))
  (.cons (.for (.nm 6) (.rng1 (.blt .len (.cons (.ix (.var 4) (.int 0)) .nil))) (.cons (.capp (.var 5) (.blt .min (.cons (.frz (.comp [7] (.bin .add (.ix (.var 3) (.var 7)) (.ix (.ix (.var 4) (.var 7)) (.var 6))) (.nm 7) (.rng1 (.blt .len (.cons (.var 4) .nil))) (.yes (.cmp .isn (.ix (.var 3) (.var 7)) .non)))) .nil)))
  .nil))
  (.cons (.set 3 (.var 5))
  .nil))))
  (.cons (.app 1 (.blt .tuple (.cons (.var 3) .nil)))
  .nil)))))
  (.cons (.ret (.blt .tuple (.cons (.mv 1) .nil)))
  .nil)))⟩
def i_law_bracketed : Def := ⟨2, 5,
  (.cons (.set 2 (.frz (.list (.var 1))))
  (.cons (.for (.nm 3) (.rng1 (.bin .sub (.blt .len (.cons (.var 1) .nil)) (.int 1))) (.cons (.set 4 (.call "_law_draw" (.cons (.var 0) (.cons (.bin .sub (.blt .len (.cons (.var 2) .nil)) (.int 1)) .nil))))
  (.cons (.set 2 (.bin .add (.bin .add (.sl (.var 2) .no (.yes (.var 4))) (.frz (.lit (.cons (.call "product" (.cons (.ix (.var 2) (.var 4)) (.cons (.ix (.var 2) (.bin .add (.var 4) (.int 1))) .nil))) .nil)))) (.sl (.var 2) (.yes (.bin .add (.var 4) (.int 2))) .no)))
  .nil)))
  (.cons (.ret (.ix (.var 2) (.int 0)))
  .nil)))⟩
def i_law_folded : Def := ⟨1, 4,
  (.cons (.set 1 (.ix (.var 0) (.int 0)))
  (.cons (.for (.nm 2) (.seq (.sl (.var 0) (.yes (.int 1)) .no)) (.cons (.set 1 (.call "product" (.cons (.var 1) (.cons (.var 2) .nil))))
  .nil))
  (.cons (.set 3 (.ix (.var 0) (.neg (.int 1))))
  (.cons (.for (.nm 2) (.seq (.frz (.ls2 (.var 0)))) (.cons (.set 3 (.call "product" (.cons (.var 2) (.cons (.var 3) .nil))))
  .nil))
  (.cons (.ret (.tup (.cons (.var 1) (.cons (.var 3) .nil))))
  .nil)))))⟩
section
variable {tb : List (String × Def)} {n : Nat} {a b : Addr} {C : CM} {P : D → CM → Prop} {ex : Exc → CM → Prop} {G : Ctx}
def nD (k : Nat) : D := .int (k : Int)
theorem rng3_map (N : Nat) : rangeD ((N : Nat) : Int) (-1) (((N : Nat) : Int) - 0).toNat = (List.range N).map fun i => .int ((N - i : Nat) : Int) := by
  unfold rangeD
  rw [show (((N : Nat) : Int) - 0).toNat = N by omega]
  refine List.map_congr_left fun i hi => ?_
  have := List.mem_range.mp hi
  congr 1
  omega
theorem range_last {α : Type} (f : Nat → α) (d : Nat) : atI ((List.range (d + 1)).map f) (-1) = some (f d) := by
  rw [List.range_succ, List.map_append]
  exact atI_last _ _
theorem range_at {α : Type} (f : Nat → α) {d i : Nat} (h : i < d) : atI ((List.range d).map f) (i : Int) = some (f i) := by
  refine atI_nat ?_
  rw [List.getElem?_map, List.getElem?_range h]; rfl
/-- the columns of the powers -/
def colsD (w : Nat) (t : List (List Int)) (z N : Nat) : List D := (List.range N).map fun i => .lst ((colL (pwr w t i) z).map .int)
theorem sums_ok {t : List (List Int)} {w N z : Nat} (s : Sq w t) (h1 : 1 ≤ N) (h2 : N ≤ 1000000) (hz : z < w) (kk : P (.lst (colsD w t z N)) C) : denF G isums_to [tbD t, .int (N : Int), .int (z : Int)] C P := by
  refine ⟨rfl, ?_⟩
  have e1 : ((N : Nat) : Int) - 1 = ((N - 1 : Nat) : Int) := by omega
  have t2 := s.1.h2
  simp_all_arith! [isums_to, tbD]
  refine comp_mapL rD (fun r => .int (cI r z)) (by rw [sz]; omega) (fun r hr K kK => ?_) ?_
  · simp_all_arith! [rD, at_cell (show z < r.length by rw [s.1.row r hr]; exact hz)]
    exact kK
  · simp_all_arith! [e1, rangeD_map]
    refine ⟨by omega, by omega, ?_⟩
    refine for_m (fun i : Nat => .int (i : Int)) [3, 4, 5] (fun done ys C' => ∃ x4 x5 : Option Dv, ys = [some (.own (colsD w t z (done.length + 1))), x4, x5] ∧ C' = C) [_, none, none] (by rfl) ⟨none, none, by
      unfold colsD
      show _ = [some (Dv.own [D.lst ((colL t z).map .int)]), none, none]
      unfold colL
      rw [List.map_map]; rfl, rfl⟩ (fun done y rest ys C2 e ⟨x4, x5, hy, hc⟩ nx knx => ?_) fun ys C2 ⟨x4, x5, hy, hc⟩ => ?_
    · subst hy hc
      have hd : done.length < 1000000 := by
        have := congrArg List.length e
        rw [List.length_range, List.length_append, List.length_cons] at this; omega
      have sn := pwr_sq s done.length
      have ge := range_last (fun i => D.lst ((colL (pwr w t i) z).map .int)) done.length
      unfold colsD
      simp_all_arith! [ge]
      refine comp_mapL rD (fun r => .int (ms r (colL (pwr w t done.length) z))) (by rw [sz]; omega) (fun r hr K kK => ?_) ?_
      · have rl := s.1.row r hr
        have w2 := s.1.w2
        simp_all_arith! [rD, rangeD_map]
        refine ⟨by omega, by omega, ?_⟩
        refine comp_mapL (xs := List.range r.length) (fun j : Nat => .int (j : Int)) (fun j => .int (cI r j + cI (Row (pwr w t done.length) j) z)) (by rw [List.length_range, sz]; omega) (fun j hj K2 kK2 => ?_) ?_
        · have hj := List.mem_range.mp hj
          have hjB : j < (pwr w t done.length).length := by rw [sn.2]; omega
          simp_all_arith! [at_cell hj, at_cell (show j < (colL (pwr w t done.length) z).length by rw [colL_len]; exact hjB), colL_at hjB]
          exact kK2
        · have em : ((List.range r.length).map fun j => D.int (cI r j + cI (Row (pwr w t done.length) j) z)) = (List.zipWith (· + ·) r (colL (pwr w t done.length) z)).map .int := by rw [← zw_range sn.1 (by rw [rl, sn.2]) hz, List.map_map]; rfl
          rw [em]
          have hne : List.zipWith (· + ·) r (colL (pwr w t done.length) z) ≠ [] := fun q => by
            have h1 := zw_len (r := r) (c := colL (pwr w t done.length) z) (by rw [colL_len, rl, sn.2])
            rw [q, List.length_nil] at h1
            have := s.1.w1
            omega
          simp_all_arith! [intsOf_map]
          exact ⟨hne, kK⟩
      · simp_all_arith! []
        refine ⟨by simp only [List.length_map, List.length_range, sz]; omega, ?_⟩
        have e4 : (t.map fun r => D.int (ms r (colL (pwr w t done.length) z))) = (colL (pwr w t (done.length + 1)) z).map .int := by
          rw [pwr_left s]
          unfold prod colL
          rw [List.map_map, List.map_map]
          refine List.map_congr_left fun r hr => ?_
          show _ = D.int (cI ((List.range w).map _) z)
          rw [cI_range hz]
        rw [e4]
        have h := knx [some (.own (colsD w t z (done.length + 1 + 1))), _, _] C2 ⟨some (.dat (.int (y : Int))), some (.dat (.lst ((colL (pwr w t done.length) z).map .int))), by rw [List.length_append, List.length_singleton], rfl⟩
        have e5 : colsD w t z (done.length + 1 + 1) = ((List.range (done.length + 1)).map fun i => D.lst ((colL (pwr w t i) z).map .int)) ++ [D.lst ((colL (pwr w t (done.length + 1)) z).map .int)] := by
          unfold colsD
          rw [List.range_succ, List.map_append]; rfl
        rw [e5] at h
        exact h
    · subst hy hc
      rw [List.length_range, show N - 1 + 1 = N by omega]
      simp_all_arith! []
      exact ⟨C2, sub_refl _, kk⟩
def SumsR (ds : List D) (C : CM) (P : D → CM → Prop) : Prop := ∃ t w, ∃ N z : Nat, ds = [tbD t, .int (N : Int), .int (z : Int)] ∧ Sq w t ∧ 1 ≤ N ∧ N ≤ 1000000 ∧ z < w ∧ P (.lst (colsD w t z N)) C
/-- a way of N steps from x to z, and a shortest one -/
structure Way (w : Nat) (t : List (List Int)) (N x z : Nat) (p : List Nat) : Prop where
  l : p.length = N
  b : ∀ y ∈ p, y < w
  e : lastN x p = z
  m : psum t x p = cI (Row (pwr w t (N - 1)) x) z
def FWayR (ds : List D) (C : CM) (P : D → CM → Prop) : Prop := ∃ t w, ∃ N x z : Nat, ds = [tbD t, .int (N : Int), .int (x : Int), .int (z : Int)] ∧ Sq w t ∧ 1 ≤ N ∧ N ≤ 1000000 ∧ x < w ∧ z < w ∧ ∀ p, Way w t N x z p → P (.tup ((x :: p).map nD)) C
theorem lastN_at : ∀ (p : List Nat) (x : Nat), atI ((x :: p).map nD) (-1) = some (nD (lastN x p))
  | [], x => rfl
  | p, x => by
    rcases List.eq_nil_or_concat p with rfl | ⟨q, y, rfl⟩
    · rfl
    · rw [List.concat_eq_append, ← List.cons_append, List.map_append, lastN_app]
      exact atI_last _ _
theorem lastN_lt {w : Nat} : ∀ (p : List Nat) (x : Nat), x < w → (∀ y ∈ p, y < w) → lastN x p < w
  | [], x, h, _ => h
  | y :: p, x, _, h => lastN_lt p y (h y List.mem_cons_self) fun q hq => h q (List.mem_cons_of_mem _ hq)
theorem first_way_ok (hq : Sp tb "check_square" 2 SquareR) (hs : Sp tb "sums_to" 1 SumsR) (hn : 2 ≤ n) {t : List (List Int)} {w N x z : Nat} (s : Sq w t) (h1 : 1 ≤ N) (h2 : N ≤ 1000000) (hx : x < w) (hz : z < w) (kk : ∀ p, Way w t N x z p → P (.tup ((x :: p).map nD)) C) : denF ⟨Gm tb n, ex⟩ ifirst_way [tbD t, .int (N : Int), .int (x : Int), .int (z : Int)] C P := by
  refine ⟨rfl, ?_⟩
  have e1 : ((N : Nat) : Int) - 1 = ((N - 1 : Nat) : Int) := by omega
  have t2 := s.1.h2
  have w2 := s.1.w2
  simp_all_arith! [ifirst_way]
  refine hq n hn _ _ _ _ ⟨t, w, rfl, s, ?_⟩
  simp_all_arith! []
  refine hs n (by omega) _ _ _ _ ⟨t, w, N, z, rfl, s, h1, h2, hz, ?_⟩
  simp_all_arith! [e1, rng3_map]
  refine ⟨by unfold bnd; omega, ?_⟩
  refine for_m (fun i : Nat => .int ((N - 1 - i : Nat) : Int)) [5, 6, 7, 8] (fun done ys C' => ∃ x6 x7 x8 : Option Dv, ∃ p : List Nat, ys = [some (.own ((x :: p).map nD)), x6, x7, x8] ∧ C' = C ∧ p.length = done.length ∧ (∀ y ∈ p, y < w) ∧ psum t x p + cI (Row (pwr w t (N - 1 - done.length)) (lastN x p)) z = cI (Row (pwr w t (N - 1)) x) z) [some (.own [nD x]), none, none, none] rfl ⟨_, _, _, [], rfl, rfl, rfl, by simp, by
    show 0 + cI (Row (pwr w t (N - 1)) x) z = _; omega⟩ (fun done y rest ys C2 e ⟨x6, x7, x8, p, hy, hc, hp, hb, hm⟩ nx knx => ?_) fun ys C2 ⟨x6, x7, x8, p, hy, hc, hp, hb, hm⟩ => ?_
  · subst hy hc
    have hd : y = done.length ∧ done.length < N - 1 := by
      have g := congrArg (fun l : List Nat => l[done.length]?) e
      have g2 := congrArg List.length e
      rw [List.length_range, List.length_append, List.length_cons] at g2
      simp only [List.getElem?_append_right (Nat.le_refl _), Nat.sub_self, List.getElem?_cons_zero] at g
      rw [List.getElem?_range (by omega)] at g
      exact ⟨(Option.some.inj g).symm, by omega⟩
    obtain ⟨rfl, hd⟩ := hd
    obtain ⟨m, hm2⟩ : ∃ m, N - 1 - done.length = m + 1 := ⟨N - 1 - done.length - 1, by omega⟩
    rw [hm2] at hm ⊢
    have sm := pwr_sq s m
    have ll := lastN_lt p x hx hb
    have lt : lastN x p < t.length := by rw [s.2]; exact ll
    have rl := s.1.rl lt
    have e3 : ((m + 1 : Nat) : Int) - 1 = ((m : Nat) : Int) := by omega
    have ge : atI (D.int (x : Int) :: p.map nD) (-1) = some (.int (lastN x p : Int)) := lastN_at p x
    simp_all_arith! [ge, nD, tbD, at_row lt, rD, rl, rangeD_map]
    refine ⟨by omega, by omega, ?_⟩
    refine comp_mapL (xs := List.range w) (fun j : Nat => .int (j : Int)) (fun j => .int (cI (Row t (lastN x p)) j + cI (Row (pwr w t m) j) z)) (by rw [List.length_range, sz]; omega) (fun j hj K2 kK2 => ?_) ?_
    · have hj := List.mem_range.mp hj
      have hjB : j < (pwr w t m).length := by rw [sm.2]; omega
      have gm : atI (colsD w t z N) ((m : Nat) : Int) = some (.lst ((colL (pwr w t m) z).map .int)) := range_at _ (by omega)
      simp_all_arith! [at_cell (show j < (Row t (lastN x p)).length by omega), e3, gm, at_cell (show j < (colL (pwr w t m) z).length by rw [colL_len]; exact hjB), colL_at hjB]
      exact kK2
    · have em : ((List.range w).map fun j => D.int (cI (Row t (lastN x p)) j + cI (Row (pwr w t m) j) z)) = (List.zipWith (· + ·) (Row t (lastN x p)) (colL (pwr w t m) z)).map .int := by rw [← zw_range sm.1 (by rw [rl, sm.2]) hz, rl, List.map_map]; rfl
      rw [em]
      have el : (Row t (lastN x p)).length = (colL (pwr w t m) z).length := by rw [rl, colL_len, sm.2]
      have hne : List.zipWith (· + ·) (Row t (lastN x p)) (colL (pwr w t m) z) ≠ [] := fun q => by
        have h1 := zw_len el
        rw [q, List.length_nil] at h1
        have := s.1.w1
        omega
      have hw1 := s.1.w1
      simp_all_arith! [intsOf_map]
      refine ⟨hne, _, first_zw el (by omega), by omega, ?_⟩
      have fl := fl_ex el (by omega)
      have hf := fl.h
      rw [rl] at hf
      have hfm := fl.ms el
      rw [colL_at (show _ < (pwr w t m).length by rw [sm.2]; exact hf)] at hfm
      have hpr : cI (Row (pwr w t (m + 1)) (lastN x p)) z = ms (Row t (lastN x p)) (colL (pwr w t m) z) := by rw [pwr_left s, prod_at lt hz]
      obtain ⟨f, ef⟩ : ∃ f, mi (Row t (lastN x p)) (colL (pwr w t m) z) = f := ⟨_, rfl⟩
      rw [ef] at hf hfm ⊢
      have h := knx [some (.own ((x :: (p ++ [f])).map nD)), some (.dat (.int ((m + 1 : Nat) : Int))), some (.dat (.tup ((Row t (lastN x p)).map .int))), some (.dat (.lst ((List.zipWith (· + ·) (Row t (lastN x p)) (colL (pwr w t m) z)).map .int)))] C2 ⟨_, _, _, p ++ [f], rfl, rfl, by rw [List.length_append, List.length_append, hp]; rfl, fun q hq => by
        rcases List.mem_append.mp hq with h | h
        · exact hb q h
        · rw [List.mem_singleton.mp h]; exact hf, by
        rw [List.length_append, List.length_singleton, show N - 1 - (done.length + 1) = m by omega, psum_app, lastN_app]
        show psum t x p + (cI (Row t (lastN x p)) f + 0) + cI (Row (pwr w t m) f) z = _
        omega⟩
      rw [show (x :: (p ++ [f])).map nD = (x :: p).map nD ++ [nD f] by rw [← List.cons_append, List.map_append]; rfl] at h
      exact h
  · subst hy hc
    rw [List.length_range] at hp hm
    rw [Nat.sub_self] at hm
    simp_all_arith! []
    refine ⟨by omega, C2, sub_refl _, ?_⟩
    have h := kk (p ++ [z]) ⟨by rw [List.length_append, List.length_singleton]; omega, fun q hq => by
        rcases List.mem_append.mp hq with h | h
        · exact hb q h
        · rw [List.mem_singleton.mp h]; exact hz, by rw [lastN_app]; rfl, by
        rw [psum_app]
        show psum t x p + (cI (Row t (lastN x p)) z + 0) = _
        have hm : psum t x p + cI (Row t (lastN x p)) z = _ := hm
        omega⟩
    rw [← List.cons_append, List.map_append] at h
    exact h
end
end M61.B31

set_option linter.all false
set_option autoImplicit false
/-! P29m: walks cut short. -/
namespace M61.WK
theorem nodup_le : ∀ (w : Nat) (l : List Nat), l.Nodup → (∀ y ∈ l, y < w) → l.length ≤ w
  | 0, [], _, _ => Nat.le_refl 0
  | 0, x :: l, _, h => absurd (h x List.mem_cons_self) (by omega)
  | w + 1, l, hn, h => by
    by_cases hw : w ∈ l
    · have h1 := nodup_le w (l.erase w) (hn.erase w) fun y hy => by
        have hy2 := (hn.mem_erase_iff.mp hy)
        have := h y hy2.2
        have := hy2.1
        omega
      rw [List.length_erase_of_mem hw] at h1
      omega
    · have h1 := nodup_le w l hn fun y hy => by
        have := h y hy
        have : y ≠ w := fun e => hw (e ▸ hy)
        omega
      omega
theorem dup_of : ∀ {l : List Nat}, ¬ l.Nodup → ∃ a y b d, l = a ++ y :: (b ++ y :: d)
  | [], h => absurd List.nodup_nil h
  | x :: l, h => by
    by_cases hx : x ∈ l
    · obtain ⟨b, d, e⟩ := List.append_of_mem hx
      exact ⟨[], x, b, d, by rw [e]; rfl⟩
    · have : ¬ l.Nodup := fun q => h (List.nodup_cons.mpr ⟨hx, q⟩)
      obtain ⟨a, y, b, d, e⟩ := dup_of this
      exact ⟨x :: a, y, b, d, by rw [e]; rfl⟩
def ps (c : Nat → Nat → Int) : Nat → List Nat → Int
  | _, [] => 0
  | x, y :: p => c x y + ps c y p
def lst : Nat → List Nat → Nat
  | x, [] => x
  | _, y :: p => lst y p
theorem ps_app (c : Nat → Nat → Int) : ∀ (p q : List Nat) (x : Nat), ps c x (p ++ q) = ps c x p + ps c (lst x p) q
  | [], q, x => by show ps c x q = 0 + ps c x q; omega
  | y :: p, q, x => by
    show c x y + ps c y (p ++ q) = c x y + ps c y p + ps c (lst y p) q
    rw [ps_app c p q y]; omega
theorem lst_app : ∀ (p q : List Nat) (x : Nat), lst x (p ++ q) = lst (lst x p) q
  | [], q, x => rfl
  | y :: p, q, x => lst_app p q y
theorem ps_nn {c : Nat → Nat → Int} (h0 : ∀ x y, 0 ≤ c x y) : ∀ (p : List Nat) (x : Nat), 0 ≤ ps c x p
  | [], _ => Int.le_refl 0
  | y :: p, x => by
    have := ps_nn h0 p y
    have := h0 x y
    show 0 ≤ c x y + ps c y p
    omega
/-- a walk is no shorter than one of at most w steps -/
theorem cut_walk {c : Nat → Nat → Int} {w : Nat} (h0 : ∀ x y, 0 ≤ c x y) : ∀ (n : Nat) (p : List Nat) (x : Nat), p.length ≤ n → (∀ y ∈ p, y < w) → p ≠ [] → ∃ q, q ≠ [] ∧ q.length ≤ w ∧ (∀ y ∈ q, y < w) ∧ lst x q = lst x p ∧ ps c x q ≤ ps c x p
  | 0, p, x, hn, _, hp => absurd (List.eq_nil_of_length_eq_zero (by omega)) hp
  | n + 1, p, x, hn, hb, hp => by
    by_cases hl : p.length ≤ w
    · exact ⟨p, hp, hl, hb, rfl, Int.le_refl _⟩
    · have hd : ¬ p.Nodup := fun q => hl (nodup_le w p q hb)
      obtain ⟨a, y, b, d, e⟩ := dup_of hd
      have hlen : (a ++ y :: d).length ≤ n := by
        have := congrArg List.length e
        simp only [List.length_append, List.length_cons] at this ⊢
        omega
      obtain ⟨q, q1, q2, q3, q4, q5⟩ := cut_walk h0 n (a ++ y :: d) x hlen (fun z hz => hb z (by
        rw [e]
        rcases List.mem_append.mp hz with h | h
        · exact List.mem_append_left _ h
        · rcases List.mem_cons.mp h with h | h
          · rw [h]; exact List.mem_append_right _ List.mem_cons_self
          · exact List.mem_append_right _ (List.mem_cons_of_mem _ (List.mem_append_right _ (List.mem_cons_of_mem _ h))))) (by simp)
      refine ⟨q, q1, q2, q3, ?_, ?_⟩
      · rw [q4, e, lst_app, lst_app]
        show lst y d = lst y (b ++ y :: d)
        rw [lst_app]; rfl
      · rw [ps_app] at q5
        rw [e, ps_app]
        have e2 : ps c (lst x a) (y :: (b ++ y :: d)) = c (lst x a) y + (ps c y b + (c (lst y b) y + ps c y d)) := by
          show c (lst x a) y + ps c y (b ++ y :: d) = _
          rw [ps_app]; rfl
        have e3 : ps c (lst x a) (y :: d) = c (lst x a) y + ps c y d := rfl
        have n1 := ps_nn h0 b y
        have n2 := h0 (lst y b) y
        omega
end M61.WK

set_option Elab.async false
set_option linter.all false
set_option autoImplicit false
/-! P35: walks: sums along them, cut and filled up; letting in place by place. -/
namespace M61.WK
open M61.B31 M61.MP
open M61.k69 (Row cI WF)
/-- the sum along a walk from i over a to k -/
def v (c : Nat → Nat → Int) : Nat → List Nat → Nat → Int
  | i, [], k => c i k
  | i, y :: a, k => c i y + v c y a k
theorem v_app (c : Nat → Nat → Int) : ∀ (a b : List Nat) (i y k : Nat), v c i (a ++ y :: b) k = v c i a y + v c y b k
  | [], b, i, y, k => rfl
  | x :: a, b, i, y, k => by
    show c i x + v c x (a ++ y :: b) k = c i x + v c x a y + v c y b k
    rw [v_app c a b x y k]; omega
theorem v_nn {c : Nat → Nat → Int} (h0 : ∀ x y, 0 ≤ c x y) : ∀ (a : List Nat) (i k : Nat), 0 ≤ v c i a k
  | [], i, k => h0 i k
  | x :: a, i, k => by
    have := v_nn h0 a x k
    have := h0 i x
    show 0 ≤ c i x + v c x a k
    omega
theorem cut {c : Nat → Nat → Int} {w : Nat} (h0 : ∀ x y, 0 ≤ c x y) (i k : Nat) (hi : i < w) : ∀ (n : Nat) (a : List Nat), a.length ≤ n → (∀ y ∈ a, y < w) → ∃ b, b.length < w ∧ (∀ y ∈ b, y < w) ∧ v c i b k ≤ v c i a k
  | 0, a, hn, ha => ⟨a, by omega, ha, Int.le_refl _⟩
  | n + 1, a, hn, ha => by
    by_cases hl : a.length < w
    · exact ⟨a, hl, ha, Int.le_refl _⟩
    · by_cases hd : (i :: a).Nodup
      · have := nodup_le w (i :: a) hd fun y hy => by
          rcases List.mem_cons.mp hy with h | h
          · rw [h]; exact hi
          · exact ha y h
        rw [List.length_cons] at this
        omega
      · by_cases hia : i ∈ a
        · obtain ⟨x, d, e⟩ := List.append_of_mem hia
          obtain ⟨b, b1, b2, b3⟩ := cut h0 i k hi n d (by
            have := congrArg List.length e
            simp only [List.length_append, List.length_cons] at this
            omega) fun y hy => ha y (by rw [e]; exact List.mem_append_right _ (List.mem_cons_of_mem _ hy))
          refine ⟨b, b1, b2, ?_⟩
          have := v_nn h0 x i i
          rw [e, v_app]
          omega
        · have hna : ¬ a.Nodup := fun q => hd (List.nodup_cons.mpr ⟨hia, q⟩)
          obtain ⟨x, y, m, d, e⟩ := dup_of hna
          obtain ⟨b, b1, b2, b3⟩ := cut h0 i k hi n (x ++ y :: d) (by
            have := congrArg List.length e
            simp only [List.length_append, List.length_cons] at this ⊢
            omega) fun z hz => ha z (by
              rw [e]
              rcases List.mem_append.mp hz with h | h
              · exact List.mem_append_left _ h
              · rcases List.mem_cons.mp h with h | h
                · rw [h]; exact List.mem_append_right _ List.mem_cons_self
                · exact List.mem_append_right _ (List.mem_cons_of_mem _ (List.mem_append_right _ (List.mem_cons_of_mem _ h))))
          refine ⟨b, b1, b2, ?_⟩
          have := v_nn h0 m y y
          rw [v_app] at b3
          rw [e, v_app, v_app]
          omega
theorem fill {c : Nat → Nat → Int} {w i k : Nat} (hz : c i i = 0) (hi : i < w) : ∀ (m : Nat) (a : List Nat), (∀ y ∈ a, y < w) → ∃ b, b.length = a.length + m ∧ (∀ y ∈ b, y < w) ∧ v c i b k = v c i a k
  | 0, a, ha => ⟨a, rfl, ha, rfl⟩
  | m + 1, a, ha => by
    obtain ⟨b, b1, b2, b3⟩ := fill (k := k) hz hi m (i :: a) fun y hy => by
      rcases List.mem_cons.mp hy with h | h
      · rw [h]; exact hi
      · exact ha y h
    refine ⟨b, by rw [List.length_cons] at b1; omega, b2, ?_⟩
    rw [b3]
    show c i i + v c i a k = _
    omega
/-- no walk over places below j comes to less -/
def Tj (c : Nat → Nat → Int) (w j : Nat) (f : Nat → Nat → Int) : Prop := ∀ i a k, i < w → k < w → (∀ y ∈ a, y < j) → f i k ≤ v c i a k
/-- each is what a walk comes to -/
def So (c : Nat → Nat → Int) (w : Nat) (f : Nat → Nat → Int) : Prop := ∀ i k, i < w → k < w → ∃ a, (∀ y ∈ a, y < w) ∧ f i k = v c i a k
theorem Tj.start (c : Nat → Nat → Int) (w : Nat) : Tj c w 0 c := fun i a k _ _ ha => by
  cases a with
  | nil => exact Int.le_refl _
  | cons y a => exact absurd (ha y List.mem_cons_self) (by omega)
theorem So.start (c : Nat → Nat → Int) (w : Nat) : So c w c := fun i k _ _ => ⟨[], fun _ h => absurd h List.not_mem_nil, rfl⟩
theorem from_j {c f : Nat → Nat → Int} {w j : Nat} (h0 : ∀ x y, 0 ≤ c x y) (T : Tj c w j f) (hj : j < w) : ∀ (n : Nat) (a : List Nat) (k : Nat), a.length ≤ n → k < w → (∀ y ∈ a, y < j + 1) → f j k ≤ v c j a k
  | n, a, k, hn, hk, ha => by
    by_cases m : j ∈ a
    · obtain ⟨x, d, e⟩ := List.append_of_mem m
      have el := congrArg List.length e
      simp only [List.length_append, List.length_cons] at el
      match n, hn with
      | 0, hn => omega
      | n + 1, hn =>
        have := from_j h0 T hj n d k (by omega) hk fun y hy => ha y (by rw [e]; exact List.mem_append_right _ (List.mem_cons_of_mem _ hy))
        have := v_nn h0 x j j
        rw [e, v_app]
        omega
    · exact T j a k hj hk fun y hy => by
        have := ha y hy
        have : y ≠ j := fun e => m (e ▸ hy)
        omega
theorem first_occ {j : Nat} : ∀ {a : List Nat}, j ∈ a → ∃ x d, a = x ++ j :: d ∧ j ∉ x
  | [], h => absurd h List.not_mem_nil
  | y :: a, h => by
    by_cases e : y = j
    · exact ⟨[], a, by rw [e]; rfl, List.not_mem_nil⟩
    · rcases List.mem_cons.mp h with h | h
      · exact absurd h.symm e
      · obtain ⟨x, d, e1, e2⟩ := first_occ h
        exact ⟨y :: x, d, by rw [e1]; rfl, fun q => by
          rcases List.mem_cons.mp q with q | q
          · exact e q.symm
          · exact e2 q⟩
theorem Tj.step {c f g : Nat → Nat → Int} {w j : Nat} (h0 : ∀ x y, 0 ≤ c x y) (T : Tj c w j f) (hj : j < w) (hg1 : ∀ i k, i < w → k < w → g i k ≤ f i k) (hg2 : ∀ i k, i < w → k < w → g i k ≤ f i j + f j k) : Tj c w (j + 1) g := fun i a k hi hk ha => by
  by_cases m : j ∈ a
  · obtain ⟨x, d, e, hx⟩ := first_occ m
    have t1 := T i x j hi hj fun y hy => by
      have := ha y (by rw [e]; exact List.mem_append_left _ hy)
      have : y ≠ j := fun q => hx (q ▸ hy)
      omega
    have t2 := from_j h0 T hj _ d k (Nat.le_refl _) hk fun y hy => ha y (by rw [e]; exact List.mem_append_right _ (List.mem_cons_of_mem _ hy))
    have := hg2 i k hi hk
    rw [e, v_app]
    omega
  · have := T i a k hi hk fun y hy => by
      have := ha y hy
      have : y ≠ j := fun q => m (q ▸ hy)
      omega
    have := hg1 i k hi hk
    omega
/-- one place's lesser of what stands and what leads over j -/
theorem So.set {c f : Nat → Nat → Int} {w i j k : Nat} (S : So c w f) (hi : i < w) (hj : j < w) (hk : k < w) : So c w fun x y => if x = i ∧ y = k then min (f i k) (f i j + f j k) else f x y := fun x y hx hy => by
  by_cases e : x = i ∧ y = k
  · obtain ⟨rfl, rfl⟩ := e
    show ∃ a, (∀ z ∈ a, z < w) ∧ (if x = x ∧ y = y then min (f x y) (f x j + f j y) else f x y) = v c x a y
    rw [if_pos ⟨rfl, rfl⟩]
    by_cases h : f x y ≤ f x j + f j y
    · rw [Int.min_eq_left h]
      exact S x y hx hy
    · rw [Int.min_eq_right (by omega)]
      obtain ⟨a, a1, a2⟩ := S x j hx hj
      obtain ⟨b, b1, b2⟩ := S j y hj hy
      exact ⟨a ++ j :: b, fun z hz => by
        rcases List.mem_append.mp hz with h | h
        · exact a1 z h
        · rcases List.mem_cons.mp h with h | h
          · rw [h]; exact hj
          · exact b1 z h, by rw [v_app, a2, b2]⟩
  · show ∃ a, (∀ z ∈ a, z < w) ∧ (if x = i ∧ y = k then min (f i k) (f i j + f j k) else f x y) = v c x a y
    rw [if_neg e]
    exact S x y hx hy
/-! ### powers -/
def cT (t : List (List Int)) (i k : Nat) : Int := cI (Row t i) k
theorem pwr_le {w : Nat} {t : List (List Int)} (s : Sq w t) : ∀ (a : List Nat) (i k : Nat), i < w → k < w → (∀ y ∈ a, y < w) → cI (Row (pwr w t a.length) i) k ≤ v (cT t) i a k
  | [], i, k, hi, hk, _ => Int.le_refl _
  | y :: a, i, k, hi, hk, ha => by
    have hy := ha y List.mem_cons_self
    have h1 := pwr_le s a y k hy hk fun z hz => ha z (List.mem_cons_of_mem _ hz)
    have h2 := pwr_add_le s (a := 0) (b := a.length) hi hy hk
    rw [show 0 + a.length + 1 = (y :: a).length by simp] at h2
    have h3 : cI (Row (pwr w t 0) i) y = cT t i y := rfl
    show _ ≤ cT t i y + v (cT t) y a k
    omega
theorem pwr_is {w : Nat} {t : List (List Int)} (s : Sq w t) : ∀ (n i k : Nat), i < w → k < w → ∃ a : List Nat, a.length = n ∧ (∀ y ∈ a, y < w) ∧ cI (Row (pwr w t n) i) k = v (cT t) i a k
  | 0, i, k, hi, hk => ⟨[], rfl, fun _ h => absurd h List.not_mem_nil, rfl⟩
  | n + 1, i, k, hi, hk => by
    obtain ⟨y, hy, e⟩ := pwr_at s (n := n) hi hk
    obtain ⟨a, a1, a2, a3⟩ := pwr_is s n y k hy hk
    exact ⟨y :: a, by rw [List.length_cons, a1], fun z hz => by
      rcases List.mem_cons.mp hz with h | h
      · rw [h]; exact hy
      · exact a2 z h, by rw [e, a3]; rfl⟩
theorem v_ge {c : Nat → Nat → Int} {w : Nat} {m : Int} (h : ∀ i k, i < w → k < w → m ≤ c i k) : ∀ (a : List Nat) (i k : Nat), i < w → k < w → (∀ y ∈ a, y < w) → m * ((a.length + 1 : Nat) : Int) ≤ v c i a k
  | [], i, k, hi, hk, _ => by
    have := h i k hi hk
    show m * ((0 + 1 : Nat) : Int) ≤ c i k
    rw [show ((0 + 1 : Nat) : Int) = 1 from rfl, Int.mul_one]
    exact this
  | y :: a, i, k, hi, hk, ha => by
    have hy := ha y List.mem_cons_self
    have h1 := v_ge h a y k hy hk fun z hz => ha z (List.mem_cons_of_mem _ hz)
    have h2 := h i y hi hy
    show m * ((a.length + 1 + 1 : Nat) : Int) ≤ c i y + v c y a k
    rw [show ((a.length + 1 + 1 : Nat) : Int) = ((a.length + 1 : Nat) : Int) + 1 from rfl, Int.mul_add, Int.mul_one]
    omega
theorem v_stay (c : Nat → Nat → Int) (i : Nat) : ∀ n : Nat, v c i (List.replicate n i) i = c i i * ((n + 1 : Nat) : Int)
  | 0 => by
    show c i i = c i i * ((0 + 1 : Nat) : Int)
    rw [show ((0 + 1 : Nat) : Int) = 1 from rfl, Int.mul_one]
  | n + 1 => by
    show c i i + v c i (List.replicate n i) i = c i i * ((n + 1 + 1 : Nat) : Int)
    rw [v_stay c i n, show ((n + 1 + 1 : Nat) : Int) = ((n + 1 : Nat) : Int) + 1 from rfl, Int.mul_add, Int.mul_one]
    omega
theorem pwr_low {w : Nat} {t : List (List Int)} (s : Sq w t) {m : Int} (h : ∀ i k, i < w → k < w → m ≤ cT t i k) {n i k : Nat} (hi : i < w) (hk : k < w) : m * ((n + 1 : Nat) : Int) ≤ cI (Row (pwr w t n) i) k := by
  obtain ⟨a, a1, a2, a3⟩ := pwr_is s n i k hi hk
  have := v_ge h a i k hi hk a2
  rw [a1] at this
  rw [a3]
  exact this
theorem pwr_stay {w : Nat} {t : List (List Int)} (s : Sq w t) {n i : Nat} (hi : i < w) : cI (Row (pwr w t n) i) i ≤ cT t i i * ((n + 1 : Nat) : Int) := by
  have := pwr_le s (List.replicate n i) i i hi hi fun y hy => by rw [(List.mem_replicate.mp hy).2]; exact hi
  rw [List.length_replicate, v_stay] at this
  exact this
/-- the powers of as many steps as places, and of more -/
theorem pwr_short {w : Nat} {t : List (List Int)} (s : Sq w t) (h0 : ∀ x y, 0 ≤ cT t x y) (hz : ∀ i, i < w → cT t i i = 0) {f : Nat → Nat → Int} (T : Tj (cT t) w w f) (S : So (cT t) w f) {n i k : Nat} (hn : w ≤ n + 1) (hi : i < w) (hk : k < w) : cI (Row (pwr w t n) i) k = f i k := by
  refine Int.le_antisymm ?_ ?_
  · obtain ⟨a, a1, a2⟩ := S i k hi hk
    obtain ⟨b, b1, b2, b3⟩ := cut h0 i k hi _ a (Nat.le_refl _) a1
    obtain ⟨d, d1, d2, d3⟩ := fill (k := k) (hz i hi) hi (n - b.length) b b2
    have := pwr_le s d i k hi hk d2
    rw [show d.length = n by omega] at this
    omega
  · obtain ⟨a, a1, a2, a3⟩ := pwr_is s n i k hi hk
    rw [a3]
    exact T i a k hi hk a2
end M61.WK

set_option Elab.async false
set_option linter.all false
set_option autoImplicit false
set_option maxRecDepth 100000
namespace M61.k35
open PySem PySem.Spec PyProof.Rows L2
local macro_rules
  | `(tactic| simp_arith! [$ls,*] $[$loc:location]?) => `(tactic| try simp only [wipeR_cons, wipeR_nil, eq_self, denE, denT, denEs, denO, denC, denI, bindT_nm, bindT_tp, bindT_tl, bindTs_nil, bindTs_cons, varD_0, varD_s, varM_own0, varM_dat0, varM_s, varO_0, varO_s, varL_own0, varL_ref0, varL_s, sz, cp1, cp2, cp3, cp4, cp5, cp6, cp7, cp8, cp9, cp10, cp11, cp12, cp15, cp18, add_i, add_t, add_l, add_s, add_b, sub_b, sub_i, mul_i, mul_t, mul_l, fdiv_i, mod_i, pow_i, shl_i, eq_r, ne_r, inn_t, nin_t, inn_l, nin_l, lt_r, lt_tt, le_r, gt_r, ge_r, is_n, isn_n, is_b, isn_b, isNon_n, isNon_i, isNon_t, isNon_l, isNon_b, isNon_s, tru_n, tru_b, tru_i, tru_t, tru_l, ix_t, ix_l, ix_c, ix_r, cellAt_l, cellL_l, lstD_l, lstD_r, sqD_t, sqD_l, sl_t, sl_l, sl_c, sl_r, rev_t, rev_l, len_t, len_l, len_c, len_r, tup_t, tup_l, tup_r, sum_t, sum_l, sum_r, min_t, min_l, max_t, max_l, min_2, max_2, min_3, repr_r, str_ri, abs_i, int_i, int_b, all_l, any_l, ty_bb, ty_bi, ty_bn, ty_bt, ty_ss, ty_sn, ty_si, ty_sb, ty_ii, ty_ib, ty_in, ty_it, ty_tt, ty_tn, ty_ti, ty_tb, ty_ll, ty_lt, ty_is, ty_il, ty_bs, ty_blst, ty_st, ty_sl, ty_ts, ty_tl, ty_ln, ty_li, ty_lb, ty_ls, intsOf_map, boolsOf_map, pair_Cmp, int_Cmp, bl_Cmp, non_Cmp, ints_Cmp, intst_Cmp, eqv_int, eqv_bl, eqv_ints, eqv_intst, List.map_cons, List.map_nil, List.replicate_succ, List.replicate_zero, List.cons_append, List.nil_append, List.set_cons_zero, List.set_cons_succ, List.length_cons, List.length_nil, List.getElem?_cons_zero, List.getElem?_cons_succ, List.eraseIdx_cons_zero, Nat.reduceSub, Nat.reduceAdd, Nat.reduceLT, Nat.reduceLeDiff, Nat.reducePow, Nat.reduceEqDiff, Nat.reduceMul, Int.reducePow, Int.reduceToNat, Int.reduceMul, Int.reduceAdd, Int.reduceSub, Int.reduceNeg, Int.reduceLT, Int.reduceLE, Int.reduceEq, Int.reduceBEq, Int.reduceBNe, zero_add', not_true_eq_false, not_false_eq_true, Bool.true_eq_false, false_and, and_false, true_and, and_true, exists_eq_left', exists_and_left, Option.some.injEq, Cell.lst.injEq, Cell.dct.injEq, if_pos_true, reduceIte, Bool.false_eq_true, decide_true, decide_false, Bool.not_true, Bool.not_false, Bool.not_eq_true', Bool.and_true, Bool.true_and, decide_eq_true_eq, decide_eq_false_iff_not, ite_self, List.isEmpty_cons, List.isEmpty_nil, ss_nil', ss_cons', s_set', s_own', s_setF', s_unp', s_par2', par2K_e, s_par3', par3K_e, s_app', s_ext', extK_e, s_exp', s_csub', csubK_e, s_dset', dsetK_e, s_capp', cappK_e, s_aug', augK_a, augK_s, s_oset', osetK_e, s_ife', s_for', s_forc', forcK_e, s_whl', s_ret', s_ret0', s_pass', s_brk', s_cnt', l_comp', l_compc', compcK_e, l_lit', l_cat', l_rvd', l_lrv', l_ls2', l_list', l_srt', srtK_e, l_srr', srrK_e, l_lrg1', l_lrg2', lrgK_e, l_rep', repK_e, setM_nil, setM_cons, Int.toNat_natCast, List.length_map, exists_eq_left, $ls,*] $[$loc]?)
local macro_rules
  | `(tactic| simp_all_arith! [$ls,*]) => `(tactic| ((try simp only [wipeR_cons, wipeR_nil, eq_self, denE, denT, denEs, denO, denC, denI, bindT_nm, bindT_tp, bindT_tl, bindTs_nil, bindTs_cons, varD_0, varD_s, varM_own0, varM_dat0, varM_s, varO_0, varO_s, varL_own0, varL_ref0, varL_s, sz, cp1, cp2, cp3, cp4, cp5, cp6, cp7, cp8, cp9, cp10, cp11, cp12, cp15, cp18, add_i, add_t, add_l, add_s, add_b, sub_b, sub_i, mul_i, mul_t, mul_l, fdiv_i, mod_i, pow_i, shl_i, eq_r, ne_r, inn_t, nin_t, inn_l, nin_l, lt_r, lt_tt, le_r, gt_r, ge_r, is_n, isn_n, is_b, isn_b, isNon_n, isNon_i, isNon_t, isNon_l, isNon_b, isNon_s, tru_n, tru_b, tru_i, tru_t, tru_l, ix_t, ix_l, ix_c, ix_r, cellAt_l, cellL_l, lstD_l, lstD_r, sqD_t, sqD_l, sl_t, sl_l, sl_c, sl_r, rev_t, rev_l, len_t, len_l, len_c, len_r, tup_t, tup_l, tup_r, sum_t, sum_l, sum_r, min_t, min_l, max_t, max_l, min_2, max_2, min_3, repr_r, str_ri, abs_i, int_i, int_b, all_l, any_l, ty_bb, ty_bi, ty_bn, ty_bt, ty_ss, ty_sn, ty_si, ty_sb, ty_ii, ty_ib, ty_in, ty_it, ty_tt, ty_tn, ty_ti, ty_tb, ty_ll, ty_lt, ty_is, ty_il, ty_bs, ty_blst, ty_st, ty_sl, ty_ts, ty_tl, ty_ln, ty_li, ty_lb, ty_ls, intsOf_map, boolsOf_map, pair_Cmp, int_Cmp, bl_Cmp, non_Cmp, ints_Cmp, intst_Cmp, eqv_int, eqv_bl, eqv_ints, eqv_intst, List.map_cons, List.map_nil, List.replicate_succ, List.replicate_zero, List.cons_append, List.nil_append, List.set_cons_zero, List.set_cons_succ, List.length_cons, List.length_nil, List.getElem?_cons_zero, List.getElem?_cons_succ, List.eraseIdx_cons_zero, Nat.reduceSub, Nat.reduceAdd, Nat.reduceLT, Nat.reduceLeDiff, Nat.reducePow, Nat.reduceEqDiff, Nat.reduceMul, Int.reducePow, Int.reduceToNat, Int.reduceMul, Int.reduceAdd, Int.reduceSub, Int.reduceNeg, Int.reduceLT, Int.reduceLE, Int.reduceEq, Int.reduceBEq, Int.reduceBNe, zero_add', not_true_eq_false, not_false_eq_true, Bool.true_eq_false, false_and, and_false, true_and, and_true, exists_eq_left', exists_and_left, Option.some.injEq, Cell.lst.injEq, Cell.dct.injEq, if_pos_true, reduceIte, Bool.false_eq_true, decide_true, decide_false, Bool.not_true, Bool.not_false, Bool.not_eq_true', Bool.and_true, Bool.true_and, decide_eq_true_eq, decide_eq_false_iff_not, ite_self, List.isEmpty_cons, List.isEmpty_nil, ss_nil', ss_cons', s_set', s_own', s_setF', s_unp', s_par2', par2K_e, s_par3', par3K_e, s_app', s_ext', extK_e, s_exp', s_csub', csubK_e, s_dset', dsetK_e, s_capp', cappK_e, s_aug', augK_a, augK_s, s_oset', osetK_e, s_ife', s_for', s_forc', forcK_e, s_whl', s_ret', s_ret0', s_pass', s_brk', s_cnt', l_comp', l_compc', compcK_e, l_lit', l_cat', l_rvd', l_lrv', l_ls2', l_list', l_srt', srtK_e, l_srr', srrK_e, l_lrg1', l_lrg2', lrgK_e, l_rep', repK_e, setM_nil, setM_cons, Int.toNat_natCast, List.length_map, exists_eq_left, $ls,*]); (repeat ((with_reducible (first | refine blk_of ?_ | refine turn_of ?_ | refine tst_of ?_)); (try simp only [wipeR_cons, wipeR_nil, eq_self, denE, denT, denEs, denO, denC, denI, bindT_nm, bindT_tp, bindT_tl, bindTs_nil, bindTs_cons, varD_0, varD_s, varM_own0, varM_dat0, varM_s, varO_0, varO_s, varL_own0, varL_ref0, varL_s, sz, cp1, cp2, cp3, cp4, cp5, cp6, cp7, cp8, cp9, cp10, cp11, cp12, cp15, cp18, add_i, add_t, add_l, add_s, add_b, sub_b, sub_i, mul_i, mul_t, mul_l, fdiv_i, mod_i, pow_i, shl_i, eq_r, ne_r, inn_t, nin_t, inn_l, nin_l, lt_r, lt_tt, le_r, gt_r, ge_r, is_n, isn_n, is_b, isn_b, isNon_n, isNon_i, isNon_t, isNon_l, isNon_b, isNon_s, tru_n, tru_b, tru_i, tru_t, tru_l, ix_t, ix_l, ix_c, ix_r, cellAt_l, cellL_l, lstD_l, lstD_r, sqD_t, sqD_l, sl_t, sl_l, sl_c, sl_r, rev_t, rev_l, len_t, len_l, len_c, len_r, tup_t, tup_l, tup_r, sum_t, sum_l, sum_r, min_t, min_l, max_t, max_l, min_2, max_2, min_3, repr_r, str_ri, abs_i, int_i, int_b, all_l, any_l, ty_bb, ty_bi, ty_bn, ty_bt, ty_ss, ty_sn, ty_si, ty_sb, ty_ii, ty_ib, ty_in, ty_it, ty_tt, ty_tn, ty_ti, ty_tb, ty_ll, ty_lt, ty_is, ty_il, ty_bs, ty_blst, ty_st, ty_sl, ty_ts, ty_tl, ty_ln, ty_li, ty_lb, ty_ls, intsOf_map, boolsOf_map, pair_Cmp, int_Cmp, bl_Cmp, non_Cmp, ints_Cmp, intst_Cmp, eqv_int, eqv_bl, eqv_ints, eqv_intst, List.map_cons, List.map_nil, List.replicate_succ, List.replicate_zero, List.cons_append, List.nil_append, List.set_cons_zero, List.set_cons_succ, List.length_cons, List.length_nil, List.getElem?_cons_zero, List.getElem?_cons_succ, List.eraseIdx_cons_zero, Nat.reduceSub, Nat.reduceAdd, Nat.reduceLT, Nat.reduceLeDiff, Nat.reducePow, Nat.reduceEqDiff, Nat.reduceMul, Int.reducePow, Int.reduceToNat, Int.reduceMul, Int.reduceAdd, Int.reduceSub, Int.reduceNeg, Int.reduceLT, Int.reduceLE, Int.reduceEq, Int.reduceBEq, Int.reduceBNe, zero_add', not_true_eq_false, not_false_eq_true, Bool.true_eq_false, false_and, and_false, true_and, and_true, exists_eq_left', exists_and_left, Option.some.injEq, Cell.lst.injEq, Cell.dct.injEq, if_pos_true, reduceIte, Bool.false_eq_true, decide_true, decide_false, Bool.not_true, Bool.not_false, Bool.not_eq_true', Bool.and_true, Bool.true_and, decide_eq_true_eq, decide_eq_false_iff_not, ite_self, List.isEmpty_cons, List.isEmpty_nil, ss_nil', ss_cons', s_set', s_own', s_setF', s_unp', s_par2', par2K_e, s_par3', par3K_e, s_app', s_ext', extK_e, s_exp', s_csub', csubK_e, s_dset', dsetK_e, s_capp', cappK_e, s_aug', augK_a, augK_s, s_oset', osetK_e, s_ife', s_for', s_forc', forcK_e, s_whl', s_ret', s_ret0', s_pass', s_brk', s_cnt', l_comp', l_compc', compcK_e, l_lit', l_cat', l_rvd', l_lrv', l_ls2', l_list', l_srt', srtK_e, l_srr', srrK_e, l_lrg1', l_lrg2', lrgK_e, l_rep', repK_e, setM_nil, setM_cons, Int.toNat_natCast, List.length_map, exists_eq_left, $ls,*])))))
open M61.k69 (Row cI WF Row_mem rD tbD at_row at_cell)
open M61.MP hiding isize_of ilaid_over icheck_fit ifirst_least iall_leasts iproduct icheck_square ipower
open M61.B31 hiding i_law_begun i_law_draw i_law_far i_law_number i_law_size i_law_slack i_law_edge i_law_bending
open M61.WK (Tj So cT v pwr_low pwr_stay pwr_short)
section
variable {tb : List (String × Def)} {n : Nat} {a b : Addr} {C : CM} {P : D → CM → Prop} {ex : Exc → CM → Prop} {G : Ctx}
theorem rng2_s (i m : Nat) : rangeD ((i : Int) + 1) 1 (((m : Nat) : Int) - ((i : Int) + 1)).toNat = (List.range (m - (i + 1))).map fun j => .int ((i + 1 + j : Nat) : Int) := by
  rw [show (((m : Nat) : Int) - ((i : Int) + 1)).toNat = m - (i + 1) by omega]
  unfold rangeD
  refine List.map_congr_left fun j _ => ?_
  congr 1; omega
theorem mono_trans {p : Nat} {a b c : List Int} (h1 : Mono p a b) (h2 : Mono p b c) : Mono p a c := fun j l hj hl => by
  have := h1 j l hj hl
  have := h2 j l hj hl
  omega
theorem rows_far {t : List (List Int)} {w : Nat} (W : WF t w) (U : Up w t) (i : Nat) : ∀ d : Nat, i + 1 + d < t.length → Mono w (Row t i) (Row t (i + 1 + d))
  | 0, h => rows_up U h
  | d + 1, h => mono_trans (rows_far W U i d (by omega)) (rows_up U (i := i + 1 + d) (by omega))
theorem down {w : Nat} {x y : List Int} (hx : x.length = w) (hy : y.length = w) (m : Mono w x y) : (sortI ((x.zip y).map fun p => p.2 - p.1)).reverse = (x.zip y).map fun p => p.2 - p.1 := by
  refine (sort_down (List.Perm.refl _) ?_).symm
  rw [List.pairwise_iff_getElem]
  intro i j hi hj hij
  rw [List.length_map, List.length_zip] at hi hj
  have := m i j (by omega) (by omega)
  unfold cI at this
  rw [List.getElem?_eq_getElem (show i < x.length by omega), List.getElem?_eq_getElem (show i < y.length by omega), List.getElem?_eq_getElem (show j < x.length by omega), List.getElem?_eq_getElem (show j < y.length by omega)] at this
  rw [List.getElem_map, List.getElem_map, List.getElem_zip, List.getElem_zip]
  show y[j] - x[j] ≤ y[i] - x[i]
  simp only [Option.getD_some] at this
  omega
theorem lst_refl (l : List Int) : (D.lst (l.map .int)).eqv (.lst (l.map .int)) = true := by
  show PyData.eqvAll (D.pys (l.map .int)) (D.pys (l.map .int)) = true
  induction l with
  | nil => rfl
  | cons x l ih =>
    show ((x == x) && PyData.eqvAll (D.pys (l.map .int)) (D.pys (l.map .int))) = true
    rw [ih, beq_self_eq_true]; rfl
theorem bends_ok {t : List (List Int)} {w : Nat} (W : WF t w) (U : Up w t) (kk : P (.bl true) C) : denF G i_law_bends [tbD t] C P := by
  refine ⟨rfl, ?_⟩
  have t2 := W.h2
  have w2 := W.w2
  simp_all_arith! [i_law_bends, tbD, List.length_map]
  refine ⟨by omega, by omega, ?_⟩
  simp_all_arith! [rangeD_map]
  refine for_m (fun i : Nat => .int (i : Int)) [1, 2, 3] (fun done ys C' => (∃ x1 x2 x3, ys = [x1, x2, x3]) ∧ C' = C) [none, none, none] rfl ⟨⟨_, _, _, rfl⟩, rfl⟩ (fun done i rest ys C1 e ⟨⟨x1, x2, x3, hy⟩, hc⟩ nx knx => ?_) fun ys C1 ⟨⟨x1, x2, x3, hy⟩, hc⟩ => ?_
  · subst hy hc
    have hi : i < t.length := List.mem_range.mp (by rw [e]; simp)
    simp_all_arith! [List.length_map]
    refine ⟨⟨by omega, by omega, by omega, by omega⟩, ?_⟩
    rw [rng2_s]
    refine for_m (fun j : Nat => .int ((i + 1 + j : Nat) : Int)) [2, 3] (fun done ys C' => (∃ x2 x3, ys = [x2, x3]) ∧ C' = C1) [_, _] rfl ⟨⟨_, _, rfl⟩, rfl⟩ (fun done j rest ys C2 e2 ⟨⟨x2, x3, hy⟩, hc⟩ nx2 knx2 => ?_) fun ys C2 ⟨⟨x2, x3, hy⟩, hc⟩ => ?_
    · subst hy hc
      have hj : i + 1 + j < t.length := by
        have := List.mem_range.mp (show j ∈ List.range (t.length - (i + 1)) by rw [e2]; simp)
        omega
      simp_all_arith! [at_row hi, at_row hj, rD, zipD_map]
      refine comp_mapL (fun p : Int × Int => D.tup [.int p.1, .int p.2]) (fun p => .int (p.2 - p.1)) (by rw [sz, List.length_zip, W.rl hi, W.rl hj]; omega) (fun p _ K kK => ?_) ?_
      · simp_all_arith! []
        exact kK
      · have em : ((Row t i).zip (Row t (i + 1 + j))).map (fun p => D.int (p.2 - p.1)) = (((Row t i).zip (Row t (i + 1 + j))).map fun p => p.2 - p.1).map .int := by rw [List.map_map]; rfl
        rw [em]
        simp_all_arith! []
        rw [down (W.rl hi) (W.rl hj) (rows_far W U i j hj)]
        simp_all_arith! [lst_refl]
        exact knx2 [_, _] _ ⟨⟨_, _, rfl⟩, rfl⟩
    · subst hy hc
      simp_all_arith! []
      exact knx [_, _, _] _ ⟨⟨_, _, _, rfl⟩, rfl⟩
  · subst hy hc
    simp_all_arith! []
    exact ⟨C1, sub_refl _, kk⟩
def BendsR (ds : List D) (C : CM) (P : D → CM → Prop) : Prop := ∃ t w, ds = [tbD t] ∧ WF t w ∧ Up w t ∧ P (.bl true) C
theorem mem_cI2 {l : List Int} {x : Int} (h : x ∈ l) : ∃ k, k < l.length ∧ cI l k = x := by
  obtain ⟨k, hk, e⟩ := List.mem_iff_getElem.mp h
  exact ⟨k, hk, by unfold cI; rw [List.getElem?_eq_getElem hk]; exact e⟩
theorem bounds_ok {t : List (List Int)} {w N : Nat} (s : Sq w t) (h1 : 1 ≤ N) (h2 : N ≤ 1000000) (kk : P (.bl true) C) : denF G i_law_bounds [tbD t, .int (N : Int), tbD (pwr w t (N - 1))] C P := by
  refine ⟨rfl, ?_⟩
  have W := s.1
  have sp := pwr_sq s (N - 1)
  have Wp := sp.1
  have t2 := W.h2
  have w2 := W.w2
  have hne : ∀ r ∈ t, r ≠ [] := fun r hr q => by
    have := W.row r hr
    rw [q] at this
    have := W.w1
    simp at *
    omega
  have low : ∀ i k, i < w → k < w → minI (t.map minI) ≤ cT t i k := fun i k hi hk => by
    have hr : Row t i ∈ t := Row_mem (by rw [s.2]; exact hi)
    have h1 : minI (t.map minI) ≤ minI (Row t i) := minI_le (List.mem_map.mpr ⟨_, hr, rfl⟩)
    have h2 : minI (Row t i) ≤ cI (Row t i) k := minI_le (cI_mem (by rw [W.rl (by rw [s.2]; exact hi)]; exact hk))
    show _ ≤ cI (Row t i) k
    omega
  simp_all_arith! [i_law_bounds, tbD]
  refine comp_mapL rD (fun r => .int (minI r)) (by rw [sz]; omega) (fun r hr K kK => ?_) ?_
  · simp_all_arith! [rD]
    refine ⟨hne r hr, ?_⟩
    exact kK
  · have em : t.map (fun r => D.int (minI r)) = (t.map minI).map .int := by rw [List.map_map]; rfl
    rw [em]
    simp_all_arith! []
    refine ⟨fun q => ?_, ?_⟩
    · have h := List.map_eq_nil_iff.mp q
      have := W.h1
      rw [h] at this
      exact absurd this (by decide)
    simp_all_arith! [List.length_map]
    refine ⟨by omega, by omega, ?_⟩
    simp_all_arith! [rangeD_map]
    refine for_m (fun i : Nat => .int (i : Int)) [4] (fun done ys C' => (∃ x1, ys = [x1]) ∧ C' = C) [none] rfl ⟨⟨_, rfl⟩, rfl⟩ (fun done i rest ys C1 e ⟨⟨x1, hy⟩, hc⟩ nx knx => ?_) fun ys C1 ⟨⟨x1, hy⟩, hc⟩ => ?_
    · subst hy hc
      have hi : i < t.length := List.mem_range.mp (by rw [e]; simp)
      have hiw : i < w := by rw [← s.2]; exact hi
      have hip : i < (pwr w t (N - 1)).length := by rw [sp.2]; exact hiw
      have rl := W.rl hi
      have rlp := Wp.rl hip
      have hN : (N : Int) = ((N - 1 + 1 : Nat) : Int) := by omega
      have b1 : minI (t.map minI) * (N : Int) ≤ minI (Row (pwr w t (N - 1)) i) := by
        obtain ⟨k, hk, ek⟩ := mem_cI2 (minI_mem (ns := Row (pwr w t (N - 1)) i) (fun q => by rw [q] at rlp; have := W.w1; simp at rlp; omega))
        rw [← ek, hN]
        exact pwr_low s low hiw (by rw [rlp] at hk; exact hk)
      have b2 : cI (Row (pwr w t (N - 1)) i) i ≤ cI (Row t i) i * (N : Int) := by
        have := pwr_stay s (n := N - 1) hiw
        rw [← hN] at this
        exact this
      simp_all_arith! [at_row hip, at_row hi, rD]
      refine ⟨fun q => by rw [q] at rlp; have := W.w1; simp at rlp; omega, ?_⟩
      simp_all_arith! []
      refine ⟨.inr ⟨by omega, by omega⟩, ?_⟩
      simp_all_arith! [eq_false (show ¬ minI (Row (pwr w t (N - 1)) i) < minI (t.map minI) * (N : Int) by omega), at_row hip, at_row hi, rD, at_cell (show i < (Row (pwr w t (N - 1)) i).length by omega), at_cell (show i < (Row t i).length by omega)]
      refine ⟨.inr ⟨by omega, by omega⟩, ?_⟩
      simp_all_arith! [eq_false (show ¬ cI (Row t i) i * (N : Int) < cI (Row (pwr w t (N - 1)) i) i by omega)]
      exact knx [_] _ ⟨⟨_, rfl⟩, rfl⟩
    · subst hy hc
      simp_all_arith! []
      exact ⟨C1, sub_refl _, kk⟩
def BoundsR (ds : List D) (C : CM) (P : D → CM → Prop) : Prop := ∃ t w, ∃ N : Nat, ds = [tbD t, .int (N : Int), tbD (pwr w t (N - 1))] ∧ Sq w t ∧ 1 ≤ N ∧ N ≤ 1000000 ∧ P (.bl true) C
theorem idx {w k : Nat} {dn rs : List Nat} (e : List.range w = dn ++ k :: rs) : k = dn.length ∧ dn.length < w := by
  have hz : (List.range w).length = dn.length + (rs.length + 1) := by rw [e, List.length_append, List.length_cons]
  rw [List.length_range] at hz
  have : (List.range w)[dn.length]? = some k := by rw [e, List.getElem?_append_right (Nat.le_refl _), Nat.sub_self]; rfl
  rw [List.getElem?_range (by omega)] at this
  exact ⟨(Option.some.inj this).symm, by omega⟩
/-! ### place by place let in -/
def rF (w : Nat) (f : Nat → Nat → Int) (i : Nat) : List Int := (List.range w).map (f i)
def tF (w : Nat) (f : Nat → Nat → Int) : List (List Int) := (List.range w).map (rF w f)
structure Fw (ad : Nat → Addr) (w : Nat) (f : Nat → Nat → Int) (C : CM) : Prop where
  inj : ∀ i j, i < w → j < w → ad i = ad j → i = j
  row : ∀ i, i < w → C (ad i) = some (.lst ((rF w f i).map D.int))
theorem rF_at {w i y : Nat} {f : Nat → Nat → Int} (h : y < (rF w f i).length) : (rF w f i)[y] = f i y := by
  have : (rF w f i)[y]? = some (f i y) := by
    have h2 : y < w := by unfold rF at h; rw [List.length_map, List.length_range] at h; exact h
    unfold rF
    rw [List.getElem?_map, List.getElem?_range h2]; rfl
  rw [List.getElem?_eq_getElem h] at this
  exact Option.some.inj this
theorem at_fn {g : Nat → D} {w i : Nat} (h : i < w) : atI ((List.range w).map g) (i : Int) = some (g i) := by
  refine atI_nat ?_
  rw [List.getElem?_map, List.getElem?_range h]; rfl
theorem cell_at {ad : Nat → Addr} {w i k : Nat} {f : Nat → Nat → Int} (F : Fw ad w f C) (hi : i < w) (hk : k < w) : cellAt (C (ad i)) (.int (k : Int)) = some (.int (f i k)) := by
  rw [F.row i hi]
  show atI ((rF w f i).map D.int) (k : Int) = _
  unfold rF
  rw [List.map_map]
  exact at_fn hk
theorem Fw.set {ad : Nat → Addr} {w i k : Nat} {f : Nat → Nat → Int} (F : Fw ad w f C) (hi : i < w) (hk : k < w) (v : Int) : Fw ad w (fun x y => if x = i ∧ y = k then v else f x y) (fun b => if b = ad i then some (.lst (((rF w f i).map D.int).set k (.int v))) else C b) := ⟨F.inj, fun x hx => by
  by_cases e : x = i
  · subst e
    have e1 : (rF w f x).set k v = rF w (fun x' y => if x' = x ∧ y = k then v else f x' y) x := by
      refine List.ext_getElem (by unfold rF; rw [List.length_set, List.length_map, List.length_map]) fun y h1 h2 => ?_
      rw [List.getElem_set, rF_at, rF_at]
      by_cases q : k = y
      · rw [if_pos q]
        show v = if x = x ∧ y = k then v else f x y
        rw [if_pos ⟨rfl, q.symm⟩]
      · rw [if_neg q]
        show f x y = if x = x ∧ y = k then v else f x y
        rw [if_neg fun z => q z.2.symm]
    show (if ad x = ad x then some (Cell.lst (((rF w f x).map D.int).set k (.int v))) else C (ad x)) = _
    rw [if_pos rfl, ← e1, List.map_set]
  · have e1 : rF w f x = rF w (fun x' y => if x' = i ∧ y = k then v else f x' y) x := by
      unfold rF
      refine List.map_congr_left fun y _ => ?_
      show f x y = if x = i ∧ y = k then v else f x y
      rw [if_neg fun z => e z.1]
    show (if ad x = ad i then some (Cell.lst (((rF w f i).map D.int).set k (.int v))) else C (ad x)) = _
    rw [if_neg fun q => e (F.inj x i hx hi q), F.row x hx, ← e1]⟩
/-- within the round of j, before the place (i, k) -/
structure Md (c : Nat → Nat → Int) (w : Nat) (f : Nat → Nat → Int) (j i k : Nat) (g : Nat → Nat → Int) : Prop where
  so : So c w g
  le : ∀ x y, x < w → y < w → g x y ≤ f x y
  tri : ∀ x y, x < w → y < w → (x < i ∨ x = i ∧ y < k) → g x y ≤ f x j + f j y
theorem Md.step {c f g : Nat → Nat → Int} {w i j k : Nat} (M : Md c w f j i k g) (hi : i < w) (hj : j < w) (hk : k < w) : Md c w f j i (k + 1) (fun x y => if x = i ∧ y = k then (if g i j + g j k < g i k then g i j + g j k else g i k) else g x y) := by
  have em : (if g i j + g j k < g i k then g i j + g j k else g i k) = min (g i k) (g i j + g j k) := by rw [Int.min_def]; split <;> split <;> omega
  have l1 := M.le i k hi hk
  have l2 := M.le i j hi hj
  have l3 := M.le j k hj hk
  refine ⟨by rw [em]; exact M.so.set hi hj hk, fun x y hx hy => ?_, fun x y hx hy h => ?_⟩
  · show (if x = i ∧ y = k then _ else _) ≤ _
    split
    · rename_i q
      obtain ⟨rfl, rfl⟩ := q
      split <;> omega
    · exact M.le x y hx hy
  · show (if x = i ∧ y = k then _ else _) ≤ _
    split
    · rename_i q
      obtain ⟨rfl, rfl⟩ := q
      split <;> omega
    · rename_i q
      exact M.tri x y hx hy (by
        rcases h with h | ⟨h1, h2⟩
        · exact .inl h
        · refine .inr ⟨h1, ?_⟩
          have : y ≠ k := fun z => q ⟨h1, z⟩
          omega)
theorem Md.row {c f g : Nat → Nat → Int} {w i j : Nat} (M : Md c w f j i w g) : Md c w f j (i + 1) 0 g := ⟨M.so, M.le, fun x y hx hy h => M.tri x y hx hy (by omega)⟩
theorem row_rF {t : List (List Int)} {w i : Nat} (h : (Row t i).length = w) : Row t i = rF w (cT t) i := by
  refine List.ext_getElem (by unfold rF; rw [h, List.length_map, List.length_range]) fun y h1 h2 => ?_
  rw [rF_at]
  unfold cT cI
  rw [List.getElem?_eq_getElem h1]; rfl
theorem cells_of {t : List (List Int)} {w : Nat} {acc : List Addr} (s : Sq w t) (al : acc.length = t.length) (an : acc.Nodup) (ac : ∀ (i : Nat) (h : i < acc.length), C acc[i] = some (.lst ((Row t i).map .int))) : ∃ ad : Nat → Addr, acc.map D.ref = (List.range w).map (fun i => D.ref (ad i)) ∧ Fw ad w (cT t) C := by
  have h0 : 0 < acc.length := by rw [al]; exact s.1.h1
  have hw : acc.length = w := by rw [al, s.2]
  refine ⟨fun i => if h : i < acc.length then acc[i] else acc[0], ?_, fun i j hi hj q => ?_, fun i hi => ?_⟩
  · refine List.ext_getElem (by rw [List.length_map, List.length_map, List.length_range, hw]) fun i h1 h2 => ?_
    rw [List.getElem_map, List.getElem_map, List.getElem_range]
    rw [List.length_map] at h1
    show D.ref acc[i] = D.ref (if h : i < acc.length then acc[i] else acc[0])
    rw [dif_pos h1]
  · have q : (if h : i < acc.length then acc[i] else acc[0]) = if h : j < acc.length then acc[j] else acc[0] := q
    rw [dif_pos (by omega), dif_pos (by omega)] at q
    have pw := List.pairwise_iff_getElem.mp an
    rcases Nat.lt_trichotomy i j with h | h | h
    · exact absurd q (pw i j (by omega) (by omega) h)
    · exact h
    · exact absurd q.symm (pw j i (by omega) (by omega) h)
  · show C (if h : i < acc.length then acc[i] else acc[0]) = _
    rw [dif_pos (by omega), ac i (by omega), row_rF (s.1.rl (by omega))]
set_option maxHeartbeats 4000000 in
theorem shortest_ok {t : List (List Int)} {w : Nat} (s : Sq w t) (h0 : ∀ x y, 0 ≤ cT t x y) (kk : ∀ f C', Tj (cT t) w w f → So (cT t) w f → P (tbD (tF w f)) C') : denF G i_law_shortest [tbD t] C P := by
  refine ⟨rfl, ?_⟩
  have W := s.1
  have t2 := W.h2
  have w2 := W.w2
  simp_all_arith! [i_law_shortest, tbD]
  refine comp_invL rD D.ref (fun dn acc C' => acc.length = dn.length ∧ acc.Nodup ∧ ∀ (i : Nat) (h : i < acc.length), C' acc[i] = some (.lst ((Row t i).map .int))) (by rw [sz]; omega) (fun dn acc C h => Nat.le_of_eq h.1) ⟨rfl, List.nodup_nil, fun i h => absurd h (Nat.not_lt_zero _)⟩ (fun dn r rst acc C1 e ⟨al, an, ac⟩ K kK kN => ?_) fun acc C1 ⟨al, an, ac⟩ => ?_
  · have er : Row t dn.length = r := by unfold k69.Row; rw [e, List.getElem?_append_right (Nat.le_refl _), Nat.sub_self]; rfl
    simp_all_arith! [rD]
    intro x hx
    have hne : ∀ (i : Nat) (h : i < acc.length), acc[i] ≠ x := fun i h q => by
      have := ac i h
      rw [q, hx] at this
      exact absurd this (by simp)
    refine kK x _ ⟨by rw [List.length_append, List.length_append, al]; rfl, ?_, fun i h => ?_⟩
    · refine List.nodup_append.mpr ⟨an, by simp, fun y hy z hz => ?_⟩
      obtain ⟨i, hi, e⟩ := List.mem_iff_getElem.mp hy
      rw [List.mem_singleton.mp hz, ← e]
      exact hne i hi
    · rw [List.length_append, List.length_singleton] at h
      by_cases hl : i < acc.length
      · rw [List.getElem_append_left hl]
        show (if acc[i] = x then _ else C1 acc[i]) = _
        rw [if_neg (hne i hl), ac i hl]
      · have hi : i = acc.length := by omega
        subst hi
        rw [List.getElem_append_right (Nat.le_refl _)]
        simp only [Nat.sub_self, List.getElem_cons_zero, if_true]
        rw [al, er]
  · obtain ⟨ad, ead, F0⟩ := cells_of s al an ac
    rw [ead]
    simp_all_arith! [List.length_map, s.2]
    refine ⟨by omega, by omega, ?_⟩
    simp_all_arith! [rangeD_map]
    refine for_m (fun i : Nat => .int (i : Int)) [3, 4, 6] (fun done ys C' => (∃ x3 x4 x6, ys = [x3, x4, x6]) ∧ ∃ f, Fw ad w f C' ∧ Tj (cT t) w done.length f ∧ So (cT t) w f) [none, none, none] rfl ⟨⟨_, _, _, rfl⟩, _, F0, Tj.start _ _, So.start _ _⟩ (fun done j rest ys C2 e ⟨⟨x3, x4, x6, hy⟩, f, F, T, S⟩ nx knx => ?_) fun ys C2 ⟨⟨x3, x4, x6, hy⟩, f, F, T, S⟩ => ?_
    · subst hy
      obtain ⟨ej, hj⟩ := idx e
      rw [← ej] at T hj
      simp_all_arith! []
      refine ⟨by omega, by omega, ?_⟩
      simp_all_arith! [rangeD_map]
      refine for_m (fun i : Nat => .int (i : Int)) [4, 6] (fun dn ys C' => (∃ x4 x6, ys = [x4, x6]) ∧ ∃ g, Fw ad w g C' ∧ Md (cT t) w f j dn.length 0 g) [_, _] rfl ⟨⟨_, _, rfl⟩, _, F, S, fun _ _ _ _ => Int.le_refl _, fun x y _ _ h => by simp at h⟩ (fun dn i rest2 ys C3 e2 ⟨⟨x4, x6, hy⟩, g, F3, M3⟩ nx2 knx2 => ?_) fun ys C3 ⟨⟨x4, x6, hy⟩, g, F3, M3⟩ => ?_
      · subst hy
        obtain ⟨rfl, hi⟩ := idx e2
        have kn2 : ∀ ys' C', (∃ x4 x6, ys' = [x4, x6]) → (∃ g, Fw ad w g C' ∧ Md (cT t) w f j (dn.length + 1) 0 g) → _ := fun ys' C' q1 q2 => knx2 ys' C' ⟨q1, by rw [List.length_append]; exact q2⟩
        generalize dn.length = i at *
        simp_all_arith! []
        refine ⟨by omega, by omega, ?_⟩
        simp_all_arith! [rangeD_map]
        refine for_m (fun i : Nat => .int (i : Int)) [6] (fun dk ys C' => (∃ x6, ys = [x6]) ∧ ∃ g, Fw ad w g C' ∧ Md (cT t) w f j i dk.length g) [_] rfl ⟨⟨_, rfl⟩, _, F3, M3⟩ (fun dk k rest3 ys C4 e3 ⟨⟨x6, hy⟩, h, F4, M4⟩ nx3 knx3 => ?_) fun ys C4 ⟨⟨x6, hy⟩, h, F4, M4⟩ => ?_
        · subst hy
          obtain ⟨rfl, hk⟩ := idx e3
          have kn3 : ∀ ys' C', (∃ x6, ys' = [x6]) → (∃ g, Fw ad w g C' ∧ Md (cT t) w f j i (dk.length + 1) g) → _ := fun ys' C' q1 q2 => knx3 ys' C' ⟨q1, by rw [List.length_append]; exact q2⟩
          generalize dk.length = k at *
          have hix : ixN (((rF w h i).map D.int)).length ((k : Nat) : Int) = some k := by
            unfold rF ixN
            rw [List.length_map, List.length_map, List.length_range, if_pos (by omega), if_pos (by omega), Int.toNat_natCast]
          simp_all_arith! [at_fn hi, at_fn hj, cell_at F4 hi hk, cell_at F4 hi hj, cell_at F4 hj hk]
          refine ⟨_, F4.row i hi, _, hix, ?_⟩
          simp_all_arith! []
          exact kn3 [_] _ ⟨_, rfl⟩ ⟨_, F4.set hi hk _, M4.step hi hj hk⟩
        · subst hy
          rw [List.length_range] at M4
          simp_all_arith! []
          exact kn2 [_, _] _ ⟨_, _, rfl⟩ ⟨_, F4, M4.row⟩
      · subst hy
        rw [List.length_range] at M3
        simp_all_arith! []
        exact knx [_, _, _] _ ⟨⟨_, _, _, rfl⟩, _, F3, by rw [List.length_append, ← ej]; exact T.step h0 hj M3.le fun i k hi hk => M3.tri i k hi hk (.inl hi), M3.so⟩
    · subst hy
      rw [List.length_range] at T
      simp_all_arith! []
      refine comp_mapL (fun i : Nat => D.ref (ad i)) (fun i => rD (rF w f i)) (by rw [List.length_range, sz]; omega) (fun i hi K kK => ?_) ?_
      · have hi := List.mem_range.mp hi
        simp_all_arith! []
        refine ⟨_, (by show cellL (C2 (ad i)) = _; rw [F.row i hi]; rfl), ?_⟩
        exact kK
      · have em : (List.range w).map (fun i => rD (rF w f i)) = (tF w f).map rD := by unfold tF; rw [List.map_map]; rfl
        rw [em]
        simp_all_arith! []
        exact ⟨C2, sub_refl _, kk f C2 T S⟩
def ShR (ds : List D) (C : CM) (P : D → CM → Prop) : Prop := ∃ t w, ds = [tbD t] ∧ Sq w t ∧ (∀ x y, 0 ≤ cT t x y) ∧ ∀ f C', Tj (cT t) w w f → So (cT t) w f → P (tbD (tF w f)) C'
structure Ap (w : Nat) (t : List (List Int)) : Prop where
  row : ∀ r ∈ t, r.length = w ∧ ∀ x ∈ r, 0 ≤ x ∧ x ≤ 1000000000
  dia : ∀ i, i < t.length → cI (Row t i) i = 0
theorem apart_ok (hd : Sp tb "_law_draw" 1 DrawR) (hm : Sp tb "_law_number" 3 NumR) (hn : 3 ≤ n) {w : Nat} (w1 : 1 ≤ w) (w2 : w ≤ 12) (hD : Deck a b C) (kk : ∀ t C', t.length = w → Ap w t → P (tbD t) C') : denF ⟨Gm tb n, ex⟩ i_law_apart [.ref a, .int (w : Int)] C P := by
  refine ⟨rfl, ?_⟩
  simp_all_arith! [i_law_apart]
  refine use_draw hd (by omega) hD (by decide) (by decide) fun kd C1 k0 k1 hD1 _ => ?_
  simp_all_arith! []
  refine ⟨by omega, by omega, ?_⟩
  simp_all_arith! [rangeD_map]
  refine for_m (fun i : Nat => .int (i : Int)) [3, 4] (fun done ys C' => ∃ (t : List (List Int)) (x4 : Option Dv), ys = [some (.own (t.map rD)), x4] ∧ t.length = done.length ∧ Ap w t ∧ Deck a b C') [some (.own (([] : List (List Int)).map rD)), none] rfl ⟨[], _, rfl, rfl, ⟨fun _ h => absurd h List.not_mem_nil, fun i h => absurd h (Nat.not_lt_zero _)⟩, hD1⟩ (fun done i rest ys C2 e ⟨t, x4, hy, htl, hA, hD2⟩ nx knx => ?_) fun ys C2 ⟨t, x4, hy, htl, hA, hD2⟩ => ?_
  · subst hy
    obtain ⟨ei, hi⟩ := idx e
    simp_all_arith! []
    refine ⟨by omega, by omega, ?_⟩
    simp_all_arith! [rangeD_map]
    refine comp_invL (fun k : Nat => D.int (k : Int)) D.int (fun dn acc C' => acc.length = dn.length ∧ (∀ x ∈ acc, 0 ≤ x ∧ x ≤ 1000000000) ∧ (i < acc.length → cI acc i = 0) ∧ Deck a b C') (by rw [List.length_range, sz]; omega) (fun dn acc C h => Nat.le_of_eq h.1) ⟨rfl, fun _ h => absurd h List.not_mem_nil, fun h => absurd h (Nat.not_lt_zero _), hD2⟩ (fun dn k rst acc C3 e2 ⟨al, ab, a0, hD3⟩ K kK kN => ?_) fun acc C3 ⟨al, ab, a0, hD3⟩ => ?_
    · obtain ⟨ek, hk⟩ := idx e2
      simp_all_arith! []
      refine hm n hn _ _ _ _ ⟨a, b, _, rfl, hD3, fun x C4 x0 x1 hD4 => ?_⟩
      simp_all_arith! []
      obtain ⟨z, ez, z0, z1⟩ : ∃ z, (if x < 0 then -x else x) = z ∧ 0 ≤ z ∧ z ≤ 1000000000 := ⟨_, rfl, by split <;> omega, by split <;> omega⟩
      rw [ez]
      have fin : ∀ y, 0 ≤ y → y ≤ 1000000000 → (i = k → y = 0) → K (some (.int y)) C4 := fun y y0 y1 y2 => kK y C4 ⟨by rw [List.length_append, List.length_append, al]; rfl, fun q hq => by
        rcases List.mem_append.mp hq with h | h
        · exact ab q h
        · rw [List.mem_singleton.mp h]; exact ⟨y0, y1⟩, fun h => by
        rw [List.length_append, List.length_singleton] at h
        unfold cI
        by_cases hl : i < acc.length
        · have := a0 hl
          unfold cI at this
          rw [List.getElem?_append_left hl]
          exact this
        · have h3 : i = acc.length := by omega
          have h4 : i = k := by rw [ek, ← al]; exact h3
          rw [h3, List.getElem?_append_right (Nat.le_refl _), Nat.sub_self, y2 h4]; rfl, hD4⟩
      by_cases hik : i = k
      · subst hik
        simp_all_arith! []
        refine ⟨.inl ⟨by omega, by omega⟩, ?_⟩
        exact fin _ (by omega) (by omega) fun _ => by omega
      · simp_all_arith! [eq_false (show ¬ (i : Int) = (k : Int) by omega)]
        refine ⟨.inl ⟨by omega, by omega⟩, ?_⟩
        exact fin _ (by omega) (by omega) fun h => absurd h hik
    · simp_all_arith! []
      have em : t.map rD ++ [D.tup (acc.map .int)] = (t ++ [acc]).map rD := by rw [List.map_append]; rfl
      rw [em]
      rw [List.length_range] at al
      have tl : t.length < 12 := by omega
      refine ⟨by omega, ?_⟩
      simp_all_arith! []
      refine knx [_, _] _ ⟨t ++ [acc], _, rfl, by rw [List.length_append, List.length_append, htl]; rfl, ⟨fun r hr => ?_, fun j hj => ?_⟩, hD3⟩
      · rcases List.mem_append.mp hr with h | h
        · exact hA.row r h
        · rw [List.mem_singleton.mp h]; exact ⟨al, ab⟩
      · rw [List.length_append, List.length_singleton] at hj
        unfold k69.Row
        by_cases hl : j < t.length
        · have := hA.dia j hl
          unfold k69.Row at this
          rw [List.getElem?_append_left hl]
          exact this
        · have h3 : j = t.length := by omega
          have h4 : j = i := by rw [ei, ← htl]; exact h3
          rw [h3, List.getElem?_append_right (Nat.le_refl _), Nat.sub_self]
          have := a0 (by omega)
          rw [← h4, h3] at this
          exact this
  · subst hy
    rw [List.length_range] at htl
    simp_all_arith! []
    exact ⟨C2, sub_refl _, kk t C2 htl hA⟩
def ApR (ds : List D) (C : CM) (P : D → CM → Prop) : Prop := ∃ a b, ∃ w : Nat, ds = [.ref a, .int (w : Int)] ∧ 1 ≤ w ∧ w ≤ 12 ∧ Deck a b C ∧ ∀ t C', t.length = w → Ap w t → P (tbD t) C'
def PwR (ds : List D) (C : CM) (P : D → CM → Prop) : Prop := ∃ t w, ∃ N : Nat, ds = [tbD t, .int (N : Int)] ∧ Sq w t ∧ 1 ≤ N ∧ P (tbD (pwr w t (N - 1))) C
theorem sp_pw {k : Nat} (h : Sp tb "power" k PowR) : Sp tb "power" k PwR := fun n hn ds C P ex ⟨t, w, N, e, s, h1, kk⟩ => h n hn ds C P ex ⟨t, _, w, N, e, s, pw_is s h1, kk⟩
theorem pwr_up {t : List (List Int)} {w : Nat} (s : Sq w t) (u : Up w t) : ∀ n, Up w (pwr w t n)
  | 0 => u
  | n + 1 => up_prod (pwr_sq s n) s (pwr_up s u n) u
theorem ap_nn {t : List (List Int)} {w : Nat} (A : Ap w t) (x y : Nat) : 0 ≤ cT t x y := by
  unfold cT cI k69.Row
  cases h : t[x]? with
  | none => exact Int.le_refl 0
  | some r =>
    show 0 ≤ (r[y]?).getD 0
    cases h2 : r[y]? with
    | none => exact Int.le_refl 0
    | some z => exact ((A.row r (List.mem_of_getElem? h)).2 z (List.mem_of_getElem? h2)).1
theorem pw_tF {t : List (List Int)} {w N : Nat} {f : Nat → Nat → Int} (s : Sq w t) (A : Ap w t) (T : Tj (cT t) w w f) (S : So (cT t) w f) (h : w ≤ N) : pwr w t (N - 1) = tF w f := by
  have sp := pwr_sq s (N - 1)
  have hl : (tF w f).length = w := by unfold tF; rw [List.length_map, List.length_range]
  refine List.ext_getElem (by rw [sp.2, hl]) fun i h1 h2 => ?_
  have hi : i < w := by rw [hl] at h2; exact h2
  have e1 : (pwr w t (N - 1))[i] = Row (pwr w t (N - 1)) i := by unfold k69.Row; rw [List.getElem?_eq_getElem h1]; rfl
  have e2 : (tF w f)[i] = rF w f i := by
    have : (tF w f)[i]? = some (rF w f i) := by unfold tF; rw [List.getElem?_map, List.getElem?_range hi]; rfl
    rw [List.getElem?_eq_getElem h2] at this
    exact Option.some.inj this
  rw [e1, e2, row_rF (sp.1.rl h1)]
  unfold rF
  refine List.map_congr_left fun k hk => ?_
  exact pwr_short s (ap_nn A) (fun i hi => A.dia i (by rw [s.2]; exact hi)) T S (by omega) hi (List.mem_range.mp hk)
set_option maxHeartbeats 4000000 in
theorem law_ok (hk : Sp tb "_law_begun" 1 DeckR) (hd : Sp tb "_law_draw" 1 DrawR) (hz : Sp tb "_law_size" 2 SizeOfR) (hb : Sp tb "_law_bending" 4 BendingR) (hp : Sp tb "power" 5 PwR) (hbe : Sp tb "_law_bends" 1 BendsR) (hbo : Sp tb "_law_bounds" 1 BoundsR) (hap : Sp tb "_law_apart" 4 ApR) (hsh : Sp tb "_law_shortest" 1 ShR) (hn : 5 ≤ n)
    {ns : List Int} (hlen : ns.length ≤ 63) (kk : ∀ C', P (.bl true) C') : denF ⟨Gm tb n, ex⟩ ilaw [.scr (ns.map .int)] C P := by
  refine ⟨rfl, ?_⟩
  simp_all_arith! [ilaw]
  refine hk n (by omega) _ _ _ _ ⟨ns, rfl, hlen, fun a b C0 hD0 => ?_⟩
  simp_all_arith! []
  refine use_draw hd (by omega) hD0 (by decide) (by decide) fun gr C1 _ _ hD1 _ => ?_
  simp_all_arith! []
  generalize (if gr = 5 then (1 : Int) else 0) = g
  refine use_draw hd (by omega) hD1 (by decide) (by decide) fun d1 C2 d10 d11 hD2 _ => ?_
  obtain ⟨N1, e1⟩ : ∃ N : Nat, 1 + d1 = (N : Int) := ⟨(1 + d1).toNat, by omega⟩
  simp_all_arith! [e1]
  refine use_draw hd (by omega) hD2 (by decide) (by decide) fun d2 C3 d20 d21 hD3 _ => ?_
  obtain ⟨N2, e2⟩ : ∃ N : Nat, 1 + d2 = (N : Int) := ⟨(1 + d2).toNat, by omega⟩
  simp_all_arith! [e2]
  refine hz n (by omega) _ _ _ _ ⟨a, b, g, rfl, hD3, fun w C4 w1 w2 _ hD4 => ?_⟩
  simp_all_arith! []
  refine hb n (by omega) _ _ _ _ ⟨a, b, w, w, rfl, w1, w2, w1, w2, hD4, fun t C5 W tl tbd tu hD5 => ?_⟩
  have s : Sq w t := ⟨W, tl⟩
  simp_all_arith! []
  show forGo _ _ _ ([N1, N2].map fun i : Nat => D.int (i : Int)) _ _
  refine for_m (fun i : Nat => D.int (i : Int)) [7, 11] (fun done ys C' => (∃ x7 x11, ys = [x7, x11]) ∧ Deck a b C') [none, none] rfl ⟨⟨_, _, rfl⟩, hD5⟩ (fun done N rest ys C6 e ⟨⟨x7, x11, hy⟩, hD6⟩ nx knx => ?_) fun ys C6 ⟨⟨x7, x11, hy⟩, hD6⟩ => ?_
  · subst hy
    have hN : 1 ≤ N ∧ N ≤ 1000000 := by
      have : N ∈ [N1, N2] := by rw [e]; simp
      rcases List.mem_cons.mp this with h | h
      · subst h; omega
      · rw [List.mem_singleton.mp h]; omega
    have sp := pwr_sq s (N - 1)
    simp_all_arith! []
    refine hp n hn _ _ _ _ ⟨t, w, N, rfl, s, hN.1, ?_⟩
    simp_all_arith! []
    refine hbe n (by omega) _ _ _ _ ⟨_, w, rfl, sp.1, pwr_up s tu _, ?_⟩
    simp_all_arith! []
    refine hbo n (by omega) _ _ _ _ ⟨t, w, N, rfl, s, hN.1, hN.2, ?_⟩
    simp_all_arith! []
    exact knx [_, _] _ ⟨⟨_, _, rfl⟩, hD6⟩
  · subst hy
    simp_all_arith! []
    refine hap n (by omega) _ _ _ _ ⟨a, b, w, rfl, w1, w2, hD6, fun u C7 ul A => ?_⟩
    have su : Sq w u := ⟨⟨by omega, by omega, w1, w2, fun r hr => (A.row r hr).1⟩, ul⟩
    simp_all_arith! []
    refine hsh n (by omega) _ _ _ _ ⟨u, w, rfl, su, ap_nn A, fun f C8 T S => ?_⟩
    obtain ⟨M, eM, hM⟩ : ∃ M : Nat, atI [D.int 1000000, D.int (w : Int), D.int (if (N2 : Int) > (w : Int) then (N2 : Int) else (w : Int))] ((N1 : Int) % 3) = some (.int (M : Int)) ∧ w ≤ M := by
      rcases (by omega : (N1 : Int) % 3 = 0 ∨ (N1 : Int) % 3 = 1 ∨ (N1 : Int) % 3 = 2) with h | h | h <;> rw [h]
      · exact ⟨1000000, rfl, by omega⟩
      · exact ⟨w, rfl, by omega⟩
      · refine ⟨if N2 > w then N2 else w, ?_, by split <;> omega⟩
        show some (D.int _) = some (D.int _)
        congr 2
        split <;> split <;> omega
    simp_all_arith! [eM]
    have WF' : WF (tF w f) w := by
      rw [← pw_tF su A T S hM]
      exact (pwr_sq su _).1
    have cm := wf_Cmp WF'
    have eq := B8.eqv_self (wf_pq WF')
    refine hp n hn _ _ _ _ ⟨u, w, w + N1, ?_, su, by omega, ?_⟩
    · rw [show ((w + N1 : Nat) : Int) = (w : Int) + (N1 : Int) by omega]
    rw [pw_tF su A T S (show w ≤ w + N1 by omega)]
    simp_all_arith! [eq]
    refine ⟨cm, cm, ?_⟩
    simp_all_arith! []
    refine hp n hn _ _ _ _ ⟨u, w, M, rfl, su, by omega, ?_⟩
    rw [pw_tF su A T S hM]
    simp_all_arith! [eq]
    exact ⟨cm, cm, C8, sub_refl _, kk C8⟩
end
theorem law_true (ns : List Int) (hl : ns.length ≤ 63) : Gm tabD 12 "law" [.scr (ns.map .int)] (fun _ => none) (fun d _ => d = .bl true) (fun _ _ => False) := by
  have hd : Sp tabD "_law_draw" 1 DrawR := B31.sp_draw rfl
  have hk : Sp tabD "_law_begun" 1 DeckR := B31.sp_begun rfl
  have hf : Sp tabD "_law_far" 2 FarR := sp_mk (d := B31.i_law_far) rfl fun n hn ds C P ex ⟨a, b, v, e, v0, v1, hD, k⟩ => by subst e; exact far_ok hd hn v0 v1 hD k
  have hm : Sp tabD "_law_number" 3 NumR := sp_mk (d := B31.i_law_number) rfl fun n hn ds C P ex ⟨a, b, v, e, hD, k⟩ => by subst e; exact number_ok hd hf hn hD k
  have hz : Sp tabD "_law_size" 2 SizeOfR := sp_mk (d := B31.i_law_size) rfl fun n hn ds C P ex ⟨a, b, g, e, hD, k⟩ => by subst e; exact size_ok hd hn hD k
  have hs1 : Sp tabD "_law_slack" 2 SlackR := sp_mk (d := B31.i_law_slack) rfl fun n hn ds C P ex ⟨a, b, g, e, hD, k⟩ => by subst e; exact slack_ok hd hn hD k
  have he1 : Sp tabD "_law_edge" 3 EdgeR := sp_mk (d := B31.i_law_edge) rfl fun n hn ds C P ex ⟨a, b, g, m, e, g0, g1, hm, hD, k⟩ => by subst e; exact edge_ok hd hf hn g0 g1 hm hD k
  have hb : Sp tabD "_law_bending" 4 BendingR := sp_mk (d := B31.i_law_bending) rfl fun n hn ds C P ex ⟨a, b, r, s, e, r1, r2, s1, s2, hD, k⟩ => by subst e; exact bending_ok hd he1 hs1 hn r1 r2 s1 s2 hD k
  have p1 : Sp tabD "size_of" 1 SizeR := sp_mk (d := MP.isize_of) rfl fun n hn ds C P ex ⟨t, w, e, W, k⟩ => by subst e; exact size_of_ok W k
  have p2 : Sp tabD "laid_over" 1 OverR := sp_mk (d := MP.ilaid_over) rfl fun n hn ds C P ex ⟨t, w, e, W, k⟩ => by subst e; exact laid_over_ok W k
  have p3 : Sp tabD "check_fit" 2 FitR := sp_mk (d := MP.icheck_fit) rfl fun n hn ds C P ex ⟨A, B, m, w, e, WA, WB, f, k⟩ => by subst e; exact check_fit_ok p1 hn WA WB f k
  have p4 : Sp tabD "first_least" 1 FirstR := sp_mk (d := MP.ifirst_least) rfl fun n hn ds C P ex ⟨r, c, e, e1, e2, e3, k⟩ => by subst e; exact first_least_ok e1 e2 e3 k
  have p5 : Sp tabD "all_leasts" 3 AllR := sp_mk (d := MP.iall_leasts) rfl fun n hn ds C P ex ⟨A, B, m, w, e, WA, WB, f, k⟩ => by subst e; exact all_leasts_ok p3 p2 p4 hn WA WB f k
  have p6 : Sp tabD "product" 4 ProdR := sp_mk (d := MP.iproduct) rfl fun n hn ds C P ex ⟨A, B, m, w, e, WA, WB, f, k⟩ => by subst e; exact product_ok p5 hn WA WB f k
  have p8 : Sp tabD "check_square" 2 SquareR := sp_mk (d := MP.icheck_square) rfl fun n hn ds C P ex ⟨t, w, e, s, k⟩ => by subst e; exact check_square_ok p1 hn s k
  have p9 : Sp tabD "power" 5 PowR := sp_mk (d := MP.ipower) rfl fun n hn ds C P ex ⟨t, h, w, N, e, s, ep, k⟩ => by subst e; exact power_ok p8 p6 hn s ep k
  have r1 : Sp tabD "_law_bends" 1 BendsR := sp_mk (d := i_law_bends) rfl fun n hn ds C P ex ⟨t, w, e, W, U, k⟩ => by subst e; exact bends_ok W U k
  have r2 : Sp tabD "_law_bounds" 1 BoundsR := sp_mk (d := i_law_bounds) rfl fun n hn ds C P ex ⟨t, w, N, e, s, h1, h2, k⟩ => by subst e; exact bounds_ok s h1 h2 k
  have r3 : Sp tabD "_law_apart" 4 ApR := sp_mk (d := i_law_apart) rfl fun n hn ds C P ex ⟨a, b, w, e, w1, w2, hD, k⟩ => by subst e; exact apart_ok hd hm hn w1 w2 hD k
  have r4 : Sp tabD "_law_shortest" 1 ShR := sp_mk (d := i_law_shortest) rfl fun n hn ds C P ex ⟨t, w, e, s, h0, k⟩ => by subst e; exact shortest_ok s h0 k
  have hl' : Sp tabD "law" 6 fun ds C P => ∃ ns : List Int, ds = [.scr (ns.map .int)] ∧ ns.length ≤ 63 ∧ ∀ C', P (.bl true) C' := sp_mk (d := ilaw) rfl fun n hn ds C P ex ⟨ns, e, hl, k⟩ => by subst e; exact law_ok hk hd hz hb (sp_pw p9) r1 r2 r3 r4 hn hl k
  exact hl' 12 (by omega) _ _ _ _ ⟨ns, rfl, hl, fun _ => rfl⟩
end M61.k35

set_option Elab.async false
set_option linter.all false
set_option autoImplicit false
set_option maxRecDepth 100000
open PySem PySem.W PyProof.Rows in
set_option maxRecDepth 100000 in
set_option maxHeartbeats 0 in
theorem PySem.Challenge.cw_bendtables_k35_whole_powers_of_what_bend_holds : PySem.Challenge.rw_bendtables_k35_whole_powers_of_what_bend.Holds := by
  w_on; o_law; k_head; (case hw => w_witness2)
  k_fill
  refine M61.walk_ofG (l := PySem.Challenge.rw_bendtables_k35_whole_powers_of_what_bend) (n := 63) (k := 12) (x := "_law_script") (CX := fun _ => L2.CX0) (sp := fun w => M61.spOf _ fun ds C Q => M61.Gm (M61.defsOf M61.k35.tab) 12 "law" ds C Q fun _ _ => False) rfl (by decide) rfl ⟨rfl, by decide, by decide⟩ (fun w h Y => PySem.W.kIn_of Y) ?F (fun _ H a ns hl _ hS => M61.start_of hS (M61.k35.law_lift (M61.k35.law_true ns hl))) (fun _ _ _ _ _ h => h)
  case F =>
    intro w mg fa h KX G hmg
    refine' M61.k35.law_mk KX G hmg (M61.k35.all_mk (w := w) KX G ?a0 ?l0 ?c0 ?k0 ?a1 ?l1 ?c1 ?k1 ?a2 ?l2 ?c2 ?k2 ?a3 ?l3 ?c3 ?k3 ?a4 ?l4 ?c4 ?k4 ?a5 ?l5 ?c5 ?k5 ?a6 ?l6 ?c6 ?k6 ?a7 ?l7 ?c7 ?k7 ?a8 ?l8 ?c8 ?k8 ?a9 ?l9 ?c9 ?k9 ?a10 ?l10 ?c10 ?k10 ?a11 ?l11 ?c11 ?k11 ?a12 ?l12 ?c12 ?k12 ?a13 ?l13 ?c13 ?k13 ?a14 ?l14 ?c14 ?k14 ?a15 ?l15 ?c15 ?k15 ?a16 ?l16 ?c16 ?k16 ?a17 ?l17 ?c17 ?k17 ?a18 ?l18 ?c18 ?k18 ?a19 ?l19 ?c19 ?k19 ?a20 ?l20 ?c20 ?k20 ?z0 ?z1 ?z2 ?z3 ?z4 ?z5 ?z6 ?z7 ?z8 ?z9 ?z10 ?z11 ?z12 ?z13 ?z14 ?z15 ?z16 ?z17 ?z18 ?z19) ?a20 ?l20 ?c20 ?k20
    (case a0 => k_is)
    (case l0 => k_is)
    (case c0 => k_is)
    (case k0 => k_is)
    (case a1 => k_is)
    (case l1 => k_is)
    (case c1 => k_is)
    (case k1 => k_is)
    (case a2 => k_is)
    (case l2 => k_is)
    (case c2 => k_is)
    (case k2 => k_is)
    (case a3 => k_is)
    (case l3 => k_is)
    (case c3 => k_is)
    (case k3 => k_is)
    (case a4 => k_is)
    (case l4 => k_is)
    (case c4 => k_is)
    (case k4 => k_is)
    (case a5 => k_is)
    (case l5 => k_is)
    (case c5 => k_is)
    (case k5 => k_is)
    (case a6 => k_is)
    (case l6 => k_is)
    (case c6 => k_is)
    (case k6 => k_is)
    (case a7 => k_is)
    (case l7 => k_is)
    (case c7 => k_is)
    (case k7 => k_is)
    (case a8 => k_is)
    (case l8 => k_is)
    (case c8 => k_is)
    (case k8 => k_is)
    (case a9 => k_is)
    (case l9 => k_is)
    (case c9 => k_is)
    (case k9 => k_is)
    (case a10 => k_is)
    (case l10 => k_is)
    (case c10 => k_is)
    (case k10 => k_is)
    (case a11 => k_is)
    (case l11 => k_is)
    (case c11 => k_is)
    (case k11 => k_is)
    (case a12 => k_is)
    (case l12 => k_is)
    (case c12 => k_is)
    (case k12 => k_is)
    (case a13 => k_is)
    (case l13 => k_is)
    (case c13 => k_is)
    (case k13 => k_is)
    (case a14 => k_is)
    (case l14 => k_is)
    (case c14 => k_is)
    (case k14 => k_is)
    (case a15 => k_is)
    (case l15 => k_is)
    (case c15 => k_is)
    (case k15 => k_is)
    (case a16 => k_is)
    (case l16 => k_is)
    (case c16 => k_is)
    (case k16 => k_is)
    (case a17 => k_is)
    (case l17 => k_is)
    (case c17 => k_is)
    (case k17 => k_is)
    (case a18 => k_is)
    (case l18 => k_is)
    (case c18 => k_is)
    (case k18 => k_is)
    (case a19 => k_is)
    (case l19 => k_is)
    (case c19 => k_is)
    (case k19 => k_is)
    (case a20 => k_is)
    (case l20 => k_is)
    (case c20 => k_is)
    (case k20 => k_is)
    (case z0 => k_is)
    (case z1 => k_is)
    (case z2 => k_is)
    (case z3 => k_is)
    (case z4 => k_is)
    (case z5 => k_is)
    (case z6 => k_is)
    (case z7 => k_is)
    (case z8 => k_is)
    (case z9 => k_is)
    (case z10 => k_is)
    (case z11 => k_is)
    (case z12 => k_is)
    (case z13 => k_is)
    (case z14 => k_is)
    (case z15 => k_is)
    (case z16 => k_is)
    (case z17 => k_is)
    (case z18 => k_is)
    (case z19 => k_is)

