import PyProof.Rows.All
import Wide.All
import OpenK.AllK
import Wide.FinOn
import HandS.ForMost
import HandS.Deep
import HandS.DeepEq
import HandS.TupAny
import HandS.TupLe
import HandS.Style
import HandS.Walk
import HandS.Conv
import HandS.SortInts
import HandS.Zip
import HandS.Rev
import HandS.RevRange
import HandS.IsInst
import PyProof.ReprRoads
import HandS.Nested
import HandS.EndTab
import KE.KNest
import KE.DataMinMax
import HandS.TupMul
import KE.KTupSum
import PyProof.Rows.IntBool
import PyProof.StrOps2
import KE.GoesMore
import KE.GoesEnum
import HandS.Words
import HandS.Codes
import HandS.Ends
import HandS.Flt
import HandS.RevTup
import HandS.TryOnly
import HandS.Small
import PyProof.NeKinds
import HandS.SortKw
import HandS.Text
import HandS.Flow
import PyProof.TupleOfSeq
import KE.KNestM
import PySem.Challenge.RW_bendtables_k27_rows_joined_put_otherwise
set_option Elab.async false
set_option linter.all false
set_option autoImplicit false
set_option maxRecDepth 100000
/-! M1: abstract values, their representation, the relation of slots, heap and cells. -/
namespace M61
open PySem PySem.Spec PyProof.Rows L2

/-- an abstract value: trees of tuples and of lists that nobody changes any more; a cell by its address -/
inductive D where
  | non | bl (b : Bool) | int (i : Int) | str (x : Str) | tup (xs : List D) | lst (xs : List D) | ref (a : Addr)
  /-- the script -/
  | scr (xs : List D)
  /-- a dict that nobody changes -/
  | dic
  /-- a def made within the def mk, at f, with what it holds -/
  | clo (mk : String) (f : Addr) (caps : List D)
  /-- .. while its maker runs -/
  | opn (mk : String) (f : Addr) (cl : List (Str × Addr))
mutual
/-- the def at f is nowhere in it -/
def D.noc (f : Addr) : D → Bool
  | .tup xs => D.nocs f xs
  | .lst xs => D.nocs f xs
  | .scr xs => D.nocs f xs
  | .clo _ g xs => decide (g ≠ f) && D.nocs f xs
  | .opn _ g _ => decide (g ≠ f)
  | .non => true
  | .bl _ => true
  | .int _ => true
  | .str _ => true
  | .ref _ => true
  | .dic => true
def D.nocs (f : Addr) : List D → Bool
  | [] => true
  | x :: xs => D.noc f x && D.nocs f xs
end
/-- the def that stands first in a def's body -/
def nestSt (K : PySem.W.Frag) (mk : String) : Option Stmt := match PySem.W.nsIn K mainGlobals (Str.ofString mk) with
  | some (some (.ref f)) => (match K.lookup f with
    | some ⟨_, _, .func fd, _⟩ => (match fd.body with
      | .stmts (st :: _) => some st
      | _ => none)
    | _ => none)
  | _ => none
def stName : Stmt → Str
  | .FunctionDef n _ _ _ _ _ _ _ _ _ => n
  | _ => Str.ofString ""
def nestQual (mk : String) (st : Stmt) : Str := Str.ofString mk ++ Str.ofString ".<locals>." ++ stName st
/-- the function made within mk -/
structure NfK (K : PySem.W.Frag) (mk : String) (nf : NdefX.NF) : Prop where
  ex : ∃ st, nestSt K mk = some st ∧ nf = NdefX.NF.of st (stName st) (nestQual mk st) nf.cl nf.c
def freeOf (sc : Scope) : List Str := (sc.names.filter fun y => decide (y.2 = .free)).map (·.1)
/-- what the cells of the def at f hold -/
structure CapsF (F : Hp) (f : Addr) (cl : List (Str × Addr)) (fr : List Str) (vs : List V) : Prop where
  len : vs.length = fr.length
  inj : ∀ x y c, cl.lookup x = some c → cl.lookup y = some c → x = y
  all : ∀ y c, cl.lookup y = some c → ∃ o v, F c = some (.frz o (.own f)) ∧ o.data = .cell v
  has : ∀ (i : Nat) (y : Str), fr[i]? = some y → ∃ c o v u, cl.lookup y = some c ∧ F c = some (.frz o (.own f)) ∧ o.data = .cell (some u) ∧ vs[i]? = some v ∧ L2.RelV v u
theorem CapsF.mono {F F' : Hp} {f : Addr} {cl : List (Str × Addr)} {fr : List Str} {vs : List V} (s : Same F F') (h : CapsF F f cl fr vs) : CapsF F' f cl fr vs :=
  ⟨h.len, h.inj, fun y c e => by obtain ⟨o, v, a, b⟩ := h.all y c e; exact ⟨o, v, s _ _ a, b⟩, fun i y e => by obtain ⟨c, o, v, u, a, b, r⟩ := h.has i y e; exact ⟨c, o, v, u, a, s _ _ b, r⟩⟩
/-- the tables of code objects that makers have -/
def tabEnt (K : PySem.W.Frag) (o : Obj) : Option (Addr × Str) := match o.data with
  | .func fd => (match fd.body with
    | .stmts (st :: _) => (match st with
      | .FunctionDef n _ _ _ _ _ _ _ _ _ => (match fd.code with
        | .ref c => (match K.lookup c with
          | some ⟨_, _, .fields vs, _⟩ => (match (vs[11]? : Option Value) with
            | some (.ref P) => some (P, fd.qualname ++ Str.ofString ".<locals>." ++ n)
            | _ => none)
          | _ => none)
        | _ => none)
      | _ => none)
    | _ => none)
  | _ => none
def tabsK (K : PySem.W.Frag) : List (Addr × Str) := K.filterMap fun p => tabEnt K p.2
/-- the tables stand, none is kept; the code objects they tell are kept -/
def TabF (K : PySem.W.Frag) (F H : Hp) : Prop := ∀ P q, (tabsK K).lookup P = some q → F P = none ∧ ∃ ps : Array Value, H P = some (.tbl ps) ∧ TriplesOk ps.toList ∧
  ∀ (pos : Pos) (cv : Value), codeAmong pos ps.toList = some cv → ∃ c, cv = .ref c ∧ F c = some (LamX.CodeO c q)
theorem TabF.ext {K : PySem.W.Frag} {F H F' H' : Hp} (t : TabF K F H) (ff : ∀ c q, F c = some (LamX.CodeO c q) → F' c = some (LamX.CodeO c q)) (hn : ∀ P ps, H P = some (.tbl ps) → F P = none → F' P = none) (hh : ∀ P ps, H P = some (.tbl ps) → H' P = some (.tbl ps)) : TabF K F' H' := fun P q e => by
  obtain ⟨n, ps, h1, h2, h3⟩ := t P q e
  refine ⟨hn P ps h1 n, ps, hh P ps h1, h2, fun pos cv hc => ?_⟩
  obtain ⟨c, e1, e2⟩ := h3 pos cv hc
  exact ⟨c, e1, ff _ _ e2⟩
/-- no table, no other thing -/
def plO : HO → Prop
  | .tbl _ => False
  | .ext _ => False
  | _ => True
theorem TabF.upd {K : PySem.W.Frag} {F H : Hp} {a : Addr} {o : HO} (t : TabF K F H) (h : ∀ u, H a = some u → plO u) : TabF K F (upd H a o) :=
  t.ext (fun _ _ h => h) (fun _ _ _ h => h) fun P ps e => by rw [upd_ne (fun z => by subst z; exact h _ e)]; exact e
/-- what such a dict is kept as -/
def isDic : HO → Prop
  | .dT _ => True
  | .dK kvs => kvs ≠ []
  | _ => False
mutual
inductive Rep (K : PySem.W.Frag) (F : Hp) : V → D → Prop
  | non : Rep K F .non .non
  | bl (b : Bool) : Rep K F (.bl b) (.bl b)
  | int (i : Int) : Rep K F (.int i) (.int i)
  | str (x : Str) : Rep K F (.str x) (.str x)
  | tup {a : Addr} {xs : List V} {ds : List D} : SqT K F a xs → Reps K F xs ds → Rep K F (.ref a) (.tup ds)
  | lst {a : Addr} {xs : List V} {ds : List D} : F a = some (HO.lst xs) → Reps K F xs ds → Rep K F (.ref a) (.lst ds)
  | scr {a : Addr} {xs : List V} {ds : List D} : SqL K F a xs → Reps K F xs ds → Rep K F (.ref a) (.scr ds)
  | ref (a : Addr) : Rep K F (.ref a) (.ref a)
  | dic {a : Addr} {u : HO} : F a = some u → isDic u → Rep K F (.ref a) .dic
  | clo {mk : String} {f : Addr} {nf : NdefX.NF} {vs : List V} {ds : List D} : NfK K mk nf → F f = some (NdefX.FnO f nf) → F nf.c = some (LamX.CodeO nf.c nf.qual) → CapsF F f nf.cl (freeOf nf.scope) vs → Reps K F vs ds → Rep K F (.ref f) (.clo mk f ds)
  | opn {mk : String} {f : Addr} {nf : NdefX.NF} : NfK K mk nf → F f = some (NdefX.FnO f nf) → F nf.c = some (LamX.CodeO nf.c nf.qual) → Rep K F (.ref f) (.opn mk f nf.cl)
inductive Reps (K : PySem.W.Frag) (F : Hp) : List V → List D → Prop
  | nil : Reps K F [] []
  | cons {v : V} {vs : List V} {d : D} {ds : List D} : Rep K F v d → Reps K F vs ds → Reps K F (v :: vs) (d :: ds)
end

section
variable {K : PySem.W.Frag} {F F' H H' : Hp}
theorem sqT_same {a : Addr} {xs : List V} (s : Same F F') (h : SqT K F a xs) : SqT K F' a xs := by
  rcases h with (q | ⟨o, q⟩) | q
  · exact .inl (.inl (s _ _ q))
  · exact .inl (.inr ⟨o, s _ _ q⟩)
  · exact .inr q
theorem sqL_same {a : Addr} {xs : List V} (s : Same F F') (h : SqL K F a xs) : SqL K F' a xs := s.seq h
mutual
theorem Rep.mono (s : Same F F') : ∀ {v : V} {d : D}, Rep K F v d → Rep K F' v d
  | _, _, .non => .non
  | _, _, .bl b => .bl b
  | _, _, .int i => .int i
  | _, _, .str x => .str x
  | _, _, .tup h r => .tup (sqT_same s h) (Reps.mono s r)
  | _, _, .lst h r => .lst (s _ _ h) (Reps.mono s r)
  | _, _, .scr h r => .scr (sqL_same s h) (Reps.mono s r)
  | _, _, .ref a => .ref a
  | _, _, .dic h d => .dic (s _ _ h) d
  | _, _, .clo n h1 h2 c r => .clo n (s _ _ h1) (s _ _ h2) (c.mono s) (Reps.mono s r)
  | _, _, .opn n h1 h2 => .opn n (s _ _ h1) (s _ _ h2)
theorem Reps.mono (s : Same F F') : ∀ {vs : List V} {ds : List D}, Reps K F vs ds → Reps K F' vs ds
  | _, _, .nil => .nil
  | _, _, .cons r t => .cons (Rep.mono s r) (Reps.mono s t)
end
theorem Reps.length : ∀ {vs : List V} {ds : List D}, Reps K F vs ds → vs.length = ds.length
  | _, _, .nil => rfl
  | _, _, .cons _ t => by rw [List.length_cons, List.length_cons, Reps.length t]
theorem Reps.get : ∀ {vs : List V} {ds : List D} {i : Nat} {v : V}, Reps K F vs ds → vs[i]? = some v → ∃ d, ds[i]? = some d ∧ Rep K F v d
  | _, _, _, _, .nil, h => by simp at h
  | _, _, 0, _, .cons r _, h => by simp at h; subst h; exact ⟨_, rfl, r⟩
  | _, _, i + 1, _, .cons _ t, h => by
    obtain ⟨d, e, r⟩ := Reps.get (i := i) t (by simpa using h)
    exact ⟨d, by simpa using e, r⟩
theorem Reps.getD : ∀ {vs : List V} {ds : List D} {i : Nat} {d : D}, Reps K F vs ds → ds[i]? = some d → ∃ v, vs[i]? = some v ∧ Rep K F v d
  | _, _, _, _, .nil, h => by simp at h
  | _, _, 0, _, .cons r _, h => by simp at h; subst h; exact ⟨_, rfl, r⟩
  | _, _, i + 1, _, .cons _ t, h => by
    obtain ⟨d, e, r⟩ := Reps.getD (i := i) t (by simpa using h)
    exact ⟨d, by simpa using e, r⟩
theorem Reps.append : ∀ {vs ws : List V} {ds es : List D}, Reps K F vs ds → Reps K F ws es → Reps K F (vs ++ ws) (ds ++ es)
  | _, _, _, _, .nil, s => s
  | _, _, _, _, .cons r t, s => .cons r (Reps.append t s)
theorem Reps.take : ∀ {vs : List V} {ds : List D} (n : Nat), Reps K F vs ds → Reps K F (vs.take n) (ds.take n)
  | _, _, 0, _ => .nil
  | _, _, _ + 1, .nil => .nil
  | _, _, n + 1, .cons r t => .cons r (Reps.take n t)
theorem Reps.drop : ∀ {vs : List V} {ds : List D} (n : Nat), Reps K F vs ds → Reps K F (vs.drop n) (ds.drop n)
  | _, _, 0, r => r
  | _, _, _ + 1, .nil => .nil
  | _, _, n + 1, .cons _ t => Reps.drop n t
theorem Reps.set : ∀ {vs : List V} {ds : List D} {v : V} {d : D} (i : Nat), Rep K F v d → Reps K F vs ds → Reps K F (vs.set i v) (ds.set i d)
  | _, _, _, _, _, _, .nil => .nil
  | _, _, _, _, 0, r, .cons _ t => .cons r t
  | _, _, _, _, i + 1, r, .cons q t => .cons q (Reps.set i r t)
theorem Reps.reverse : ∀ {vs : List V} {ds : List D}, Reps K F vs ds → Reps K F vs.reverse ds.reverse
  | _, _, .nil => .nil
  | _, _, .cons r t => by rw [List.reverse_cons, List.reverse_cons]; exact (Reps.reverse t).append (.cons r .nil)
theorem Reps.replicate {v : V} {d : D} (r : Rep K F v d) : ∀ n : Nat, Reps K F (List.replicate n v) (List.replicate n d)
  | 0 => .nil
  | n + 1 => .cons r (Reps.replicate r n)
theorem Reps.flatten {vs : List V} {ds : List D} (r : Reps K F vs ds) : ∀ n : Nat, Reps K F (List.replicate n vs).flatten (List.replicate n ds).flatten
  | 0 => .nil
  | n + 1 => by rw [List.replicate_succ, List.replicate_succ, List.flatten_cons, List.flatten_cons]; exact r.append (Reps.flatten r n)
theorem Reps.one {v : V} {d : D} (r : Rep K F v d) : Reps K F [v] [d] := .cons r .nil
end

/-- what stands in a cell: a list, a dict -/
inductive Cell where
  | lst (xs : List D)
  | dct (kvs : List (L2.Key × D))
  /-- a dict whose keys are tuples -/
  | dtp (kvs : List (List L2.Key × D))
  /-- an instance of a class -/
  | ins (cls : String) (fs : List (String × D))

abbrev CM := Addr → Option Cell
inductive RepKV (K : PySem.W.Frag) (F : Hp) : List (L2.Key × V) → List (L2.Key × D) → Prop
  | nil : RepKV K F [] []
  | cons {k : L2.Key} {v : V} {d : D} {vs : List (L2.Key × V)} {ds : List (L2.Key × D)} : Rep K F v d → RepKV K F vs ds → RepKV K F ((k, v) :: vs) ((k, d) :: ds)
theorem RepKV.mono {K : PySem.W.Frag} {F F' : Hp} (s : Same F F') : ∀ {vs ds}, RepKV K F vs ds → RepKV K F' vs ds
  | _, _, .nil => .nil
  | _, _, .cons r t => .cons (r.mono s) (RepKV.mono s t)
inductive RepKT (K : PySem.W.Frag) (F : Hp) : List (List L2.Key × V) → List (List L2.Key × D) → Prop
  | nil : RepKT K F [] []
  | cons {k : List L2.Key} {v : V} {d : D} {vs : List (List L2.Key × V)} {ds : List (List L2.Key × D)} : Rep K F v d → RepKT K F vs ds → RepKT K F ((k, v) :: vs) ((k, d) :: ds)
theorem RepKT.mono {K : PySem.W.Frag} {F F' : Hp} (s : Same F F') : ∀ {vs ds}, RepKT K F vs ds → RepKT K F' vs ds
  | _, _, .nil => .nil
  | _, _, .cons r t => .cons (r.mono s) (RepKT.mono s t)
inductive RepFs (K : PySem.W.Frag) (F : Hp) : List (Str × V) → List (String × D) → Prop
  | nil : RepFs K F [] []
  | cons {k : String} {v : V} {d : D} {vs : List (Str × V)} {ds : List (String × D)} : Rep K F v d → RepFs K F vs ds → RepFs K F ((Str.ofString k, v) :: vs) ((k, d) :: ds)
theorem RepFs.mono {K : PySem.W.Frag} {F F' : Hp} (s : Same F F') : ∀ {vs ds}, RepFs K F vs ds → RepFs K F' vs ds
  | _, _, .nil => .nil
  | _, _, .cons r t => .cons (r.mono s) (RepFs.mono s t)
/-- the cell at a as it stands in the heap -/
def CellRep (K : PySem.W.Frag) (F H : Hp) (a : Addr) : Cell → Prop
  | .lst xs => ∃ vs, H a = some (HO.lst vs) ∧ Reps K F vs xs
  | .dct kvs => ∃ vs, H a = some (HO.dK vs) ∧ RepKV K F vs kvs
  | .dtp kvs => ∃ vs, H a = some (HO.dT vs) ∧ RepKT K F vs kvs
  | .ins cls fs => ∃ cad dx vs, PySem.W.nsIn K mainGlobals (Str.ofString cls) = some (some (.ref cad)) ∧ H a = some (HO.ins cad dx vs) ∧ RepFs K F vs fs
theorem CellRep.pl {K : PySem.W.Frag} {F H : Hp} {a : Addr} {c : Cell} (h : CellRep K F H a c) : ∀ u, H a = some u → plO u := by
  intro u hu
  cases c with
  | lst xs => obtain ⟨vs, e, _⟩ := h; rw [e] at hu; cases hu; trivial
  | dct xs => obtain ⟨vs, e, _⟩ := h; rw [e] at hu; cases hu; trivial
  | dtp xs => obtain ⟨vs, e, _⟩ := h; rw [e] at hu; cases hu; trivial
  | ins cls xs => obtain ⟨_, _, vs, _, e, _⟩ := h; rw [e] at hu; cases hu; trivial
theorem CellRep.ex {K : PySem.W.Frag} {F H : Hp} {a : Addr} {c : Cell} (h : CellRep K F H a c) : ∃ o, H a = some o := by
  cases c with
  | lst xs => obtain ⟨vs, e, _⟩ := h; exact ⟨_, e⟩
  | dct xs => obtain ⟨vs, e, _⟩ := h; exact ⟨_, e⟩
  | dtp xs => obtain ⟨vs, e, _⟩ := h; exact ⟨_, e⟩
  | ins cls xs => obtain ⟨_, _, vs, _, e, _⟩ := h; exact ⟨_, e⟩
theorem CellRep.mono {K : PySem.W.Frag} {F F' H H' : Hp} {a : Addr} {c : Cell} (s : Same F F') (e : ∀ o, H a = some o → H' a = some o) (h : CellRep K F H a c) : CellRep K F' H' a c := by
  cases c with
  | lst xs => obtain ⟨vs, q, r⟩ := h; exact ⟨vs, e _ q, r.mono s⟩
  | dct xs => obtain ⟨vs, q, r⟩ := h; exact ⟨vs, e _ q, r.mono s⟩
  | dtp xs => obtain ⟨vs, q, r⟩ := h; exact ⟨vs, e _ q, r.mono s⟩
  | ins cls xs => obtain ⟨cad, dx, vs, n, q, r⟩ := h; exact ⟨cad, dx, vs, n, e _ q, r.mono s⟩

/-- an abstract slot: a value, or a list that this slot alone holds -/
inductive Dv where
  | dat (d : D)
  | own (xs : List D)
abbrev Rho := List (Option Dv)

structure Base where
  H : Hp
  F : Hp
  C : CM

/-- how heaps go on from (H, F, C) to (H', F', C') -/
structure Fr (H F : Hp) (C : CM) (H' F' : Hp) (C' : CM) : Prop where
  ff : Same F F'
  fnew : ∀ a o, F' a = some o → F a = some o ∨ H a = none
  frame : ∀ a o, H a = some o → C a = none → (∀ ps, o ≠ .tbl ps) → H' a = some o
  cnew : ∀ a c, C' a = some c → (∃ c0, C a = some c0) ∨ H a = none
  stay : ∀ a o, H a = some o → ∃ o', H' a = some o'
theorem Fr.refl (H F : Hp) (C : CM) : Fr H F C H F C := ⟨Same.refl _, fun _ _ h => .inl h, fun _ _ h _ _ => h, fun _ c h => .inl ⟨c, h⟩, fun _ o h => ⟨o, h⟩⟩
theorem Fr.trans {H F H1 F1 H2 F2 : Hp} {C C1 C2 : CM} (a : Fr H F C H1 F1 C1) (b : Fr H1 F1 C1 H2 F2 C2) : Fr H F C H2 F2 C2 where
  ff := a.ff.trans b.ff
  fnew := fun x o h => by
    rcases b.fnew x o h with h | h
    · exact a.fnew x o h
    · refine .inr ?_
      cases e : H x with
      | none => rfl
      | some q => obtain ⟨o', z⟩ := a.stay x q e; rw [h] at z; cases z
  frame := fun x o h hc nt => by
    refine b.frame x o (a.frame x o h hc nt) ?_ nt
    cases e : C1 x with
    | none => rfl
    | some q =>
      rcases a.cnew x q e with ⟨c0, z⟩ | z
      · rw [hc] at z; cases z
      · rw [h] at z; cases z
  cnew := fun x c h => by
    rcases b.cnew x c h with ⟨c1, h⟩ | h
    · exact a.cnew x c1 h
    · refine .inr ?_
      cases e : H x with
      | none => rfl
      | some q => obtain ⟨o', z⟩ := a.stay x q e; rw [h] at z; cases z
  stay := fun x o h => by
    obtain ⟨o1, h1⟩ := a.stay x o h
    exact b.stay x o1 h1

/-- the cells as they stand -/
structure Cells (K : PySem.W.Frag) (F H : Hp) (C : CM) : Prop where
  fh : Same F H
  cel : ∀ a c, C a = some c → CellRep K F H a c ∧ F a = none
  tb : TabF K F H

/-- the slots, the heap, the cells, behind a base -/
structure Rel (K : PySem.W.Frag) (B : Base) (F : Hp) (σ : L2.St) (H : Hp) (ρ : Rho) (C : CM) : Prop where
  len : ρ.length = σ.length
  ce : Cells K F H C
  fr : Fr B.H B.F B.C H F C
  dat : ∀ (i : Nat) (d : D), ρ[i]? = some (some (Dv.dat d)) → ∃ v, σ[i]? = some (some v) ∧ Rep K F v d
  own : ∀ (i : Nat) (xs : List D), ρ[i]? = some (some (Dv.own xs)) → ∃ a vs, σ[i]? = some (some (V.ref a)) ∧ H a = some (HO.lst vs) ∧ Reps K F vs xs ∧ F a = none ∧ C a = none ∧ B.H a = none
  dis : ∀ (i j : Nat) (xs ys : List D) (a : Addr), i ≠ j → ρ[i]? = some (some (Dv.own xs)) → ρ[j]? = some (some (Dv.own ys)) → σ[i]? = some (some (V.ref a)) → σ[j]? ≠ some (some (V.ref a))

/-- no slot holds a as its own -/
def NotOwn (ρ : Rho) (σ : L2.St) (a : Addr) : Prop := ∀ (j : Nat) (ys : List D), ρ[j]? = some (some (Dv.own ys)) → σ[j]? ≠ some (some (V.ref a))

/-- heaps that only grow -/
structure Grow (F H F' H' : Hp) : Prop where
  ff : Same F F'
  hh : Same H H'
  fh : Same F' H'
  fnew : ∀ a o, F' a = some o → F a = some o ∨ H a = none
theorem Grow.refl {F H : Hp} (h : Same F H) : Grow F H F H := ⟨Same.refl _, Same.refl _, h, fun _ _ h => .inl h⟩
theorem same_upd {H : Hp} {p : Addr} {o : HO} (h : H p = none) : Same H (upd H p o) := fun b x e => by
  rw [upd_ne (ne_of_none e h)]; exact e
theorem same_none {F H : Hp} {p : Addr} (s : Same F H) (h : H p = none) : F p = none := by
  cases e : F p with
  | none => rfl
  | some o => rw [s p o e] at h; cases h
theorem same_upd2 {F H : Hp} {p : Addr} {o : HO} (s : Same F H) (h : H p = none) : Same (upd F p o) (upd H p o) := fun b x e => by
  by_cases q : b = p
  · subst q; rw [upd_same] at e ⊢; exact e
  · rw [upd_ne q] at e ⊢; exact s b x e
theorem Grow.new {F H : Hp} {p : Addr} {o : HO} (s : Same F H) (h : H p = none) : Grow F H (upd F p o) (upd H p o) :=
  ⟨same_upd (same_none s h), same_upd h, same_upd2 s h, fun a x e => by
    by_cases q : a = p
    · subst q; exact .inr h
    · rw [upd_ne q] at e; exact .inl e⟩
theorem Grow.trans {F H F1 H1 F2 H2 : Hp} (a : Grow F H F1 H1) (b : Grow F1 H1 F2 H2) : Grow F H F2 H2 :=
  ⟨a.ff.trans b.ff, a.hh.trans b.hh, b.fh, fun x o e => by
    rcases b.fnew x o e with h | h
    · exact a.fnew x o h
    · exact .inr (same_none a.hh h)⟩
theorem Grow.fr {F H F' H' : Hp} (g : Grow F H F' H') {C : CM} : Fr H F C H' F' C :=
  ⟨g.ff, g.fnew, fun a o h _ _ => g.hh a o h, fun _ c h => .inl ⟨c, h⟩, fun a o h => ⟨o, g.hh a o h⟩⟩
theorem Cells.grow {K : PySem.W.Frag} {F H F' H' : Hp} {C : CM} (c : Cells K F H C) (g : Grow F H F' H') : Cells K F' H' C where
  fh := g.fh
  tb := c.tb.ext (fun _ _ h => g.ff _ _ h) (fun P ps h n => by
    cases e : F' P with
    | none => rfl
    | some o =>
      rcases g.fnew P o e with z | z
      · rw [n] at z; cases z
      · rw [h] at z; cases z) fun _ _ h => g.hh _ _ h
  cel := fun a x h => by
    obtain ⟨r, n⟩ := c.cel a x h
    refine ⟨r.mono g.ff (fun o => g.hh a o), ?_⟩
    cases e : F' a with
    | none => rfl
    | some o =>
      obtain ⟨o2, e2⟩ := r.ex
      rcases g.fnew a o e with z | z
      · rw [n] at z; cases z
      · rw [e2] at z; cases z

section
variable {K : PySem.W.Frag} {B : Base} {F F' H H' : Hp} {σ σ' : L2.St} {ρ ρ' : Rho} {C C' : CM}
/-- a step that leaves own lists as they are -/
theorem Rel.step (R : Rel K B F σ H ρ C) (f : Fr H F C H' F' C') (c : Cells K F' H' C') : Rel K B F' σ H' ρ C' where
  len := R.len
  ce := c
  fr := R.fr.trans f
  dat := fun i d h => by
    obtain ⟨v, e, r⟩ := R.dat i d h
    exact ⟨v, e, r.mono f.ff⟩
  own := fun i xs h => by
    obtain ⟨a, vs, e, hl, r, n1, n2, n3⟩ := R.own i xs h
    refine ⟨a, vs, e, f.frame a _ hl n2 (fun _ z => nomatch z), r.mono f.ff, ?_, ?_, n3⟩
    · cases q : F' a with
      | none => rfl
      | some o =>
        rcases f.fnew a o q with z | z
        · rw [n1] at z; cases z
        · rw [hl] at z; cases z
    · cases q : C' a with
      | none => rfl
      | some o =>
        rcases f.cnew a o q with ⟨_, z⟩ | z
        · rw [n2] at z; cases z
        · rw [hl] at z; cases z
  dis := R.dis
theorem Rel.grow (R : Rel K B F σ H ρ C) (g : Grow F H F' H') : Rel K B F' σ H' ρ C := R.step g.fr (R.ce.grow g)
theorem Rel.notOwn_of (R : Rel K B F σ H ρ C) {a : Addr} (h : H a = none) : NotOwn ρ σ a := fun j ys hj e => by
  obtain ⟨b, vs, e2, hl, _⟩ := R.own j ys hj
  rw [e] at e2
  cases e2
  rw [h] at hl; cases hl
theorem Rel.base_none (R : Rel K B F σ H ρ C) {a : Addr} (h : H a = none) : B.H a = none := by
  cases e : B.H a with
  | none => rfl
  | some o => obtain ⟨o', z⟩ := R.fr.stay a o e; rw [h] at z; cases z
theorem Rel.cell_none (R : Rel K B F σ H ρ C) {a : Addr} (h : H a = none) : C a = none := by
  cases e : C a with
  | none => rfl
  | some c => obtain ⟨o, z⟩ := (R.ce.cel a c e).1.ex; rw [h] at z; cases z
/-- forget slots -/
theorem Rel.weak (R : Rel K B F σ H ρ C) (hl : ρ'.length = σ'.length) (h : ∀ (i : Nat) (x : Dv), ρ'[i]? = some (some x) → ρ[i]? = some (some x) ∧ σ'[i]? = σ[i]?) : Rel K B F σ' H ρ' C where
  len := hl
  ce := R.ce
  fr := R.fr
  dat := fun i d q => by obtain ⟨q1, q2⟩ := h i _ q; rw [q2]; exact R.dat i d q1
  own := fun i xs q => by obtain ⟨q1, q2⟩ := h i _ q; rw [q2]; exact R.own i xs q1
  dis := fun i j xs ys a n q1 q2 q3 => by
    obtain ⟨p1, e1⟩ := h i _ q1
    obtain ⟨p2, e2⟩ := h j _ q2
    rw [e2]; rw [e1] at q3
    exact R.dis i j xs ys a n p1 p2 q3
/-- a slot takes a value -/
theorem Rel.setDat (R : Rel K B F σ H ρ C) (i : Nat) {v : V} {d : D} (r : Rep K F v d) : Rel K B F (σ.set i (some v)) H (ρ.set i (some (Dv.dat d))) C where
  len := by rw [List.length_set, List.length_set]; exact R.len
  ce := R.ce
  fr := R.fr
  dat := fun j e h => by
    rw [List.getElem?_set] at h
    rw [List.getElem?_set]
    split at h
    · rename_i q
      split at h
      · rename_i q2
        rw [if_pos q, if_pos (by rw [← R.len]; exact q2)]
        cases h
        exact ⟨v, rfl, r⟩
      · cases h
    · rename_i q
      rw [if_neg q]
      exact R.dat j e h
  own := fun j xs h => by
    rw [List.getElem?_set] at h
    rw [List.getElem?_set]
    split at h
    · split at h
      · cases h
      · cases h
    · rename_i q
      rw [if_neg q]
      exact R.own j xs h
  dis := fun j k xs ys a n q1 q2 q3 => by
    rw [List.getElem?_set] at q1 q2 q3 ⊢
    split at q1
    · split at q1 <;> cases q1
    · rename_i z1
      split at q2
      · split at q2 <;> cases q2
      · rename_i z2
        rw [if_neg z1] at q3
        rw [if_neg z2]
        exact R.dis j k xs ys a n q1 q2 q3
/-- a slot takes a list as its own -/
theorem Rel.setOwn (R : Rel K B F σ H ρ C) (i : Nat) {a : Addr} {vs : List V} {xs : List D} (hl : H a = some (HO.lst vs)) (r : Reps K F vs xs) (n1 : F a = none) (n2 : C a = none) (n3 : B.H a = none) (no : NotOwn ρ σ a) :
    Rel K B F (σ.set i (some (V.ref a))) H (ρ.set i (some (Dv.own xs))) C where
  len := by rw [List.length_set, List.length_set]; exact R.len
  ce := R.ce
  fr := R.fr
  dat := fun j e h => by
    rw [List.getElem?_set] at h
    rw [List.getElem?_set]
    split at h
    · split at h <;> cases h
    · rename_i q
      rw [if_neg q]
      exact R.dat j e h
  own := fun j ys h => by
    rw [List.getElem?_set] at h
    rw [List.getElem?_set]
    split at h
    · rename_i q
      split at h
      · rename_i q2
        rw [if_pos q, if_pos (by rw [← R.len]; exact q2)]
        cases h
        exact ⟨a, vs, rfl, hl, r, n1, n2, n3⟩
      · cases h
    · rename_i q
      rw [if_neg q]
      exact R.own j ys h
  dis := fun j k ys zs b n q1 q2 q3 => by
    rw [List.getElem?_set] at q1 q2 q3 ⊢
    split at q1
    · rename_i z1
      subst z1
      rw [if_pos rfl] at q3
      rw [if_neg (Ne.symm n).symm] at q2
      rw [if_neg (Ne.symm n).symm]
      split at q3
      · cases q3
        exact no k zs q2
      · cases q3
    · rename_i z1
      rw [if_neg z1] at q3
      split at q2
      · rename_i z2
        split at q2
        · rename_i z3
          rw [if_pos z2, if_pos (by rw [← R.len]; exact z3)]
          intro e
          cases e
          exact no j ys q1 q3
        · cases q2
      · rename_i z2
        rw [if_neg z2]
        exact R.dis j k ys zs b n q1 q2 q3
end
end M61

set_option Elab.async false
set_option linter.all false
set_option autoImplicit false
set_option maxRecDepth 100000
/-! M2: the inner form of the program's text, and what it means. -/
namespace M61
open PySem PySem.Spec PyProof.Rows L2

inductive Bop where | add | sub | mul | fdiv | mod | pow | shl
  deriving DecidableEq
inductive Cop where | eq | ne | lt | le | gt | ge | is | isn | inn | nin
  deriving DecidableEq
/-- built-ins that are asked of values -/
inductive Blt where | len | tuple | sum | min | max | min2 | max2 | abs | int | all | any | repr | min3 | str | mind | maxd | min2d
  deriving DecidableEq
/-- built-in kinds -/
inductive Ty where | int | bool | tuple | list | str | dict
  deriving DecidableEq

mutual
inductive Tg where
  | nm (i : Nat)
  | tp (ts : Tgs)
inductive Tgs where
  | nil
  | cons (t : Tg) (ts : Tgs)
end

mutual
inductive E where
  | var (i : Nat)
  | mv (i : Nat)
  | non | bl (b : Bool) | int (i : Int) | str (s : String)
  | con (x : String) (i : Int)
  | cns (x : String) (s : String)
  | bin (o : Bop) (a b : E)
  | neg (a : E)
  | cmp (o : Cop) (a b : E)
  | chn (o o' : Cop) (a b c : E)
  | chn3 (o o' o'' : Cop) (a b c d : E)
  | dlk (kvs : List (String × String)) (a : E)
  | and (a b : E) | or (a b : E) | not (a : E)
  | ife (t : T) (a b : E)
  | tup (es : Es)
  | frz (l : L)
  | cel (l : L)
  | ix (a b : E)
  | sl (a : E) (lo hi : O)
  | rev (a : E)
  | call (f : String) (es : Es)
  | blt (f : Blt) (es : Es)
  | isi (a : E) (t : Ty)
  | oix (i : Nat) (b : E)
  | olen (i : Nat)
  | one (i : Nat)
  | oem (i : Nat)
  | cne (a : E) | ceq (a : E)
  | lne (a : E) | leq (a : E)
  | opop (i : Nat)
  | cpop (o : E)
  | cpopA (o k : E)
  | indx (a b : E)
  | edic
  | ndic (k : Int ⊕ String) (a : E)
  | celd (ks : List String) (es : Es)
  | dix (a : E) (k : String)
  | mxo (k : Bool) (a b : E)
  | gget (x : String) (kvs : List (String × Int)) (a : E)
  | upr (a : E)
  | orv (a b : E)
  /-- a made def called by a name -/
  | callv (i : Nat) (es : Es)
  /-- g(the def of this frame at i, ..); js: what it holds -/
  | callc (g : String) (i : Nat) (mk : String) (js : List Nat) (es : Es)
  | fld (cls f : String) (a : E)
  | meth (cls m : String) (a : E) (es : Es)
  | make (cls : String) (es : Es)
  /-- an empty dict for keys that are tuples -/
  | dnt
  | dgt (d : E) (ks : Es)
  /-- tuple(range(a)) -/
  | trg1 (a : E)
inductive T where
  | and (a b : T) | or (a b : T) | not (a : T)
  | cmp (o : Cop) (a b : E)
  | chn (o o' : Cop) (a b c : E)
  | chn3 (o o' o'' : Cop) (a b c d : E)
  | one (i : Nat) | oem (i : Nat)
  | tne (a : E) | teq (a : E)
  | lne (a : E) | leq (a : E)
  | cne (a : E) | ceq (a : E)
  | din (ks : Es) (d : E) | dnin (ks : Es) (d : E)
  | val (e : E)
inductive Es where
  | nil
  | cons (e : E) (es : Es)
inductive Oc where
  | no
  | yes (t : T)
inductive O where
  | no
  | yes (e : E)
inductive L where
  | lit (es : Es)
  | comp (own : List Nat) (elt : E) (tg : Tg) (it : I) (c : Oc)
  | compc (own : List Nat) (elt : E) (tg : Tg) (e : E) (c : Oc)
  | list (e : E)
  | srt (e : E)
  | srr (e : E)
  | lrg1 (a : E) | lrg2 (a b : E) | lrv (a : E) | ls2 (a : E)
  | odd (a : E)
  | rep (a b : E)
  | cat (a b : E) | rvd (a : E)
  /-- a list and behind it the slot's own list, that stays -/
  | cato (a : E) (i : Nat)
inductive I where
  | seq (e : E)
  | rng1 (a : E) | rng2 (a b : E) | rng3 (a b c : E)
  | enum (e : E)
  | zip (a b : E) | zip3 (a b c : E)
  | rvs (e : E)
  | rvr (a b : E) | rvr1 (a : E)
  | sgn (e : E)
end

mutual
inductive S where
  | set (i : Nat) (e : E)
  | own (i : Nat) (l : L)
  | setF (i : Nat) (l : L)
  | unp (tg : Tg) (e : E)
  | par2 (i j : Nat) (es : Es) | par3 (i j l : Nat) (es : Es)
  | aug (i : Nat) (o : Bop) (e : E)
  | app (i : Nat) (e : E)
  | oset (i : Nat) (k e : E)
  | oaug (i : Nat) (k : E) (o : Bop) (e : E)
  | ext (i : Nat) (e : E)
  | csub (o k e : E)
  | capp (o e : E)
  | cins (o k e : E)
  | dset (o : E) (k : String) (e : E)
  | fset (cls f : String) (o e : E)
  | dpt (d : E) (ks : Es) (e : E)
  | ndef (i : Nat) (mk : String)
  /-- the whole body of a def that makes a def and returns it -/
  | mkr (mk : String) (js : List Nat)
  /-- the making of an instance -/
  | mkc (cls : String)
  | exp (e : E)
  | ife (t : T) (a b : Ss)
  | for (tg : Tg) (it : I) (b : Ss)
  | forc (tg : Tg) (e : E) (b : Ss)
  | whl (t : T) (b : Ss)
  | ret (e : E) | ret0 | pass | brk | cnt
  | nev
inductive Ss where
  | nil
  | cons (s : S) (ss : Ss)
end

structure Def where
  ps : Nat
  ns : Nat
  body : Ss

/-- an exception: its class, its fields -/
structure Exc where
  cls : String
  fields : List D
/-- what is wanted of exceptions; the cells of the running frame that its own defs hold -/
structure ExP where
  f : Exc → CM → Prop
  cl : List (Str × Addr)
abbrev Gam := String → List D → CM → (D → CM → Prop) → ExP → Prop
structure Ctx where
  Γ : Gam
  ex : ExP
/-- the name of a made def in the table -/
def cloKey (mk : String) : String := mk ++ "/"
/-- a method's name in the table -/
def methKey (cls m : String) : String := cls ++ "." ++ m
def Cell.noc (f : Addr) : Cell → Bool
  | .lst xs => D.nocs f xs
  | .dct kvs => D.nocs f (kvs.map (·.2))
  | .dtp kvs => D.nocs f (kvs.map (·.2))
  | .ins _ fs => D.nocs f (fs.map (·.2))
/-- the cells that don't speak of the def at f -/
def CM.drop (f : Addr) (C : CM) : CM := fun a => match C a with
  | some c => if c.noc f = true then some c else none
  | none => none
/-- .. and back: those that did are as they were -/
def CM.back (f : Addr) (C C2 : CM) : CM := fun a => match C a with
  | some c => if c.noc f = true then C2 a else some c
  | none => C2 a
/-- nothing speaks of the def at f yet -/
def CM.fresh (f : Addr) (C : CM) : Prop := ∀ a c, C a = some c → c.noc f = true

/-! ### operations -/
mutual
def D.py : D → PyData
  | .non => .none
  | .bl b => .bool b
  | .int i => .int i
  | .str x => .str x
  | .tup xs => .tuple (D.pys xs)
  | .lst xs => .list (D.pys xs)
  | .ref _ => .none
  | .scr _ => .none
  | .dic => .none
  | .clo _ _ _ => .none
  | .opn _ _ _ => .none
def D.pys : List D → List PyData
  | [] => []
  | x :: xs => D.py x :: D.pys xs
end
mutual
def D.pure : D → Bool
  | .non => true
  | .bl _ => true
  | .int _ => true
  | .str _ => true
  | .tup xs => D.pures xs
  | .lst xs => D.pures xs
  | .ref _ => false
  | .scr _ => false
  | .dic => false
  | .clo _ _ _ => false
  | .opn _ _ _ => false
def D.pures : List D → Bool
  | [] => true
  | x :: xs => D.pure x && D.pures xs
end
/-- a tree that may be compared -/
def D.Cmp (d : D) : Prop := d.pure = true ∧ SeqAt.shaped d.py = true
def D.eqv (d e : D) : Bool := PyData.eqv d.py e.py
def D.flat : D → Bool
  | .non => true
  | .bl _ => true
  | .int _ => true
  | .str _ => true
  | _ => false
def D.isNon : D → Bool
  | .non => true
  | _ => false

def intsOf : List D → Option (List Int)
  | [] => some []
  | .int i :: r => (intsOf r).map (i :: ·)
  | _ :: _ => none
def sgnD (z : Str) : List D := z.cps.toList.map fun c => .str ⟨#[c]⟩
/-- a text so many times -/
def repS (z : Str) (k : Nat) : Str := ⟨(List.replicate k z.cps.toList).flatten.toArray⟩
def binR : Bop → D → D → (D → Prop) → Prop
  | .add, .int i, .int j, P => P (.int (i + j))
  | .add, .str x, .str y, P => x.length + y.length ≤ sizeLine ∧ P (.str (x ++ y))
  | .add, .tup xs, .tup ys, P => xs.length + ys.length ≤ sizeLine ∧ P (.tup (xs ++ ys))
  | .add, .lst xs, .lst ys, P => xs.length + ys.length ≤ sizeLine ∧ P (.lst (xs ++ ys))
  | .sub, .int i, .int j, P => P (.int (i - j))
  | .add, .bl b, .int j, P => P (.int ((if b = true then 1 else 0) + j))
  | .sub, .bl b, .int j, P => P (.int ((if b = true then 1 else 0) - j))
  | .mul, .int i, .int j, P => CMul i j ∧ P (.int (i * j))
  | .mul, .tup xs, .int k, P => -1000 ≤ k ∧ k ≤ 1000 ∧ xs.length ≤ 1000 ∧ P (.tup (List.replicate k.toNat xs).flatten)
  | .mul, .lst xs, .int k, P => -(2 ^ 63) ≤ k ∧ k < 2 ^ 63 ∧ xs.length * k.toNat ≤ sizeLine ∧ P (.lst (List.replicate k.toNat xs).flatten)
  | .mul, .str z, .int k, P => -1000 ≤ k ∧ k ≤ 1000 ∧ z.length ≤ 1000 ∧ P (.str (repS z k.toNat))
  | .fdiv, .int i, .int j, P => CDiv i j ∧ P (.int (i / j))
  | .mod, .int i, .int j, P => 0 < j ∧ P (.int (i % j))
  | .pow, .int i, .int j, P => CPow i j ∧ P (.int (i ^ j.toNat))
  | .shl, .int i, .int j, P => CPow i j ∧ P (.int (i * 2 ^ j.toNat))
  | _, _, _, _ => False

def cmpR : Cop → D → D → (Bool → Prop) → Prop
  | .eq, d, e, P => d.Cmp ∧ e.Cmp ∧ P (d.eqv e)
  | .ne, d, e, P => d.Cmp ∧ e.Cmp ∧ P (!d.eqv e)
  | .lt, .int i, .int j, P => P (decide (i < j))
  | .le, .int i, .int j, P => P (decide (i ≤ j))
  | .gt, .int i, .int j, P => P (decide (j < i))
  | .ge, .int i, .int j, P => P (decide (j ≤ i))
  | .lt, .tup xs, .tup ys, P => ∃ ns ms, intsOf xs = some ns ∧ intsOf ys = some ms ∧ P (HT.lexLt ns ms)
  | .is, d, .non, P => P d.isNon
  | .isn, d, .non, P => P (!d.isNon)
  | .is, .bl a, .bl b, P => P (decide (a = b))
  | .isn, .bl a, .bl b, P => P (!decide (a = b))
  | .inn, d, .tup ds, P => d.flat = true ∧ ds.all D.flat = true ∧ P (ds.any fun z => z.eqv d)
  | .nin, d, .tup ds, P => d.flat = true ∧ ds.all D.flat = true ∧ P (!ds.any fun z => z.eqv d)
  | .inn, d, .lst ds, P => d.Cmp ∧ (D.lst ds).Cmp ∧ P (ds.any fun z => z.eqv d)
  | .nin, d, .lst ds, P => d.Cmp ∧ (D.lst ds).Cmp ∧ P (!ds.any fun z => z.eqv d)
  | .inn, .str x, .str z, P => ∃ c, x = ⟨#[c]⟩ ∧ P (decide (c ∈ z.cps.toList))
  | .nin, .str x, .str z, P => ∃ c, x = ⟨#[c]⟩ ∧ P (!decide (c ∈ z.cps.toList))
  | _, _, _, _ => False

def truD : D → (Bool → Prop) → Prop
  | .non, P => P false
  | .bl b, P => P b
  | .int i, P => P (i != 0)
  | .str x, P => x.length ≤ sizeLine ∧ P ((x.length : Int) != 0)
  | .tup xs, P => P (!xs.isEmpty)
  | .lst xs, P => P (!xs.isEmpty)
  | _, _ => False

/-- what a cell has at a key -/
def cellAt : Option Cell → D → Option D
  | some (.lst xs), .int i => atI xs i
  | _, _ => none
def itemR (C : CM) : D → D → (D → Prop) → Prop
  | .tup xs, .int i, P => ∃ d, atI xs i = some d ∧ P d
  | .lst xs, .int i, P => ∃ d, atI xs i = some d ∧ P d
  | .str z, .int i, P => z.length ≤ sizeLine ∧ ∃ c, atI z.cps.toList i = some c ∧ P (.str ⟨#[c]⟩)
  | .scr xs, .int i, P => ∃ d, atI xs i = some d ∧ P d
  | .ref a, k, P => ∃ d, cellAt (C a) k = some d ∧ P d
  | _, _, _ => False

def cutD (xs : List D) (lo hi : Option Int) : List D := (xs.drop (HT.sIx xs.length 0 lo)).take (HT.sIx xs.length xs.length hi - HT.sIx xs.length 0 lo)
def sliceR (C : CM) : D → Option Int → Option Int → (D → Prop) → Prop
  | .tup xs, lo, hi, P => P (.tup (cutD xs lo hi))
  | .lst xs, lo, hi, P => P (.lst (cutD xs lo hi))
  | .scr xs, lo, hi, P => P (.lst (cutD xs lo hi))
  | .ref a, lo, hi, P => ∃ xs, C a = some (.lst xs) ∧ P (.lst (cutD xs lo hi))
  | _, _, _, _ => False
def revR : D → (D → Prop) → Prop
  | .lst xs, P => P (.lst xs.reverse)
  | .tup xs, P => P (.tup xs.reverse)
  | _, _ => False

def boolsOf : List D → Option (List Bool)
  | [] => some []
  | .bl i :: r => (boolsOf r).map (i :: ·)
  | _ :: _ => none
def minI : List Int → Int
  | [] => 0
  | x :: r => r.foldl min x
def maxI : List Int → Int
  | [] => 0
  | x :: r => r.foldl max x
def insI (x : Int) : List Int → List Int
  | [] => [x]
  | y :: r => if x ≤ y then x :: y :: r else y :: insI x r
def sortI : List Int → List Int
  | [] => []
  | x :: r => insI x (sortI r)

def lenD : D → Option Nat
  | .tup xs => some xs.length
  | .lst xs => some xs.length
  | .scr xs => some xs.length
  | _ => none
def cellL : Option Cell → Option (List D)
  | some (.lst xs) => some xs
  | _ => none
/-- a list's elements -/
def lstD (C : CM) : D → Option (List D)
  | .lst xs => some xs
  | .ref a => cellL (C a)
  | _ => none
def seqD (C : CM) : D → Option (List D)
  | .tup xs => some xs
  | .lst xs => some xs
  | .ref a => cellL (C a)
  | _ => none

def bltR (C : CM) : Blt → List D → (D → Prop) → Prop
  | .len, [.ref a], P => ∃ xs, C a = some (.lst xs) ∧ P (.int xs.length)
  | .len, [.str x], P => x.length ≤ sizeLine ∧ P (.int x.length)
  | .len, [d], P => ∃ n, lenD d = some n ∧ P (.int (n : Nat))
  | .tuple, [d], P => ∃ xs, seqD C d = some xs ∧ P (.tup xs)
  | .sum, [d], P => ∃ xs ns, seqD C d = some xs ∧ intsOf xs = some ns ∧ P (.int ns.sum)
  | .min, [d], P => ∃ xs ns, seqD C d = some xs ∧ intsOf xs = some ns ∧ ns ≠ [] ∧ P (.int (minI ns))
  | .max, [d], P => ∃ xs ns, seqD C d = some xs ∧ intsOf xs = some ns ∧ ns ≠ [] ∧ P (.int (maxI ns))
  | .min2, [.int i, .int j], P => P (.int (if j < i then j else i))
  | .max2, [.int i, .int j], P => P (.int (if j > i then j else i))
  | .abs, [.int i], P => P (.int (if i < 0 then -i else i))
  | .int, [.int i], P => P (.int i)
  | .int, [.bl b], P => P (.int (if b then 1 else 0))
  | .str, [.int i], P => i.natAbs.log2 < 1920 ∧ P (.str (Str.ofString (toString i)))
  | .mind, [d], P => ∃ x xs, seqD C d = some (x :: xs) ∧ D.pures (x :: xs) = true ∧ PySem.W.AlikeAll (D.pys (x :: xs)) ∧ PyData.depthAll (D.pys (x :: xs)) ≤ 64 ∧ ∀ y ∈ x :: xs, y.py = PySem.W.minD x.py (D.pys xs) → P y
  | .min2d, [x, y], P => D.pures [x, y] = true ∧ PySem.W.AlikeAll (D.pys [x, y]) ∧ PyData.depthAll (D.pys [x, y]) ≤ 64 ∧ ∀ z ∈ [x, y], z.py = PySem.W.minD x.py (D.pys [y]) → P z
  | .maxd, [d], P => ∃ x xs, seqD C d = some (x :: xs) ∧ D.pures (x :: xs) = true ∧ PySem.W.AlikeAll (D.pys (x :: xs)) ∧ PyData.depthAll (D.pys (x :: xs)) ≤ 64 ∧ ∀ y ∈ x :: xs, y.py = PySem.W.maxD x.py (D.pys xs) → P y
  | .repr, [d], P => d.pure = true ∧ d.py.showable = true ∧ d.py.hasDict = false ∧ d.py.depth ≤ 64 ∧ d.py.shown.length ≤ sizeLine ∧ P (.str d.py.shown)
  | .min3, [.int i, .int j, .int k], P => P (.int (min (min i j) k))
  | .all, [.lst xs], P => ∃ bs, boolsOf xs = some bs ∧ P (.bl (bs.all id))
  | .any, [.lst xs], P => ∃ bs, boolsOf xs = some bs ∧ P (.bl (bs.any id))
  | _, _, _ => False

def isTy : Ty → D → Option Bool
  | _, .ref _ => none
  | _, .scr _ => none
  | _, .clo _ _ _ => none
  | _, .opn _ _ _ => none
  | .int, d => some (match d with | .int _ => true | .bl _ => true | _ => false)
  | .bool, d => some (match d with | .bl _ => true | _ => false)
  | .tuple, d => some (match d with | .tup _ => true | _ => false)
  | .list, d => some (match d with | .lst _ => true | _ => false)
  | .str, d => some (match d with | .str _ => true | _ => false)
  | .dict, d => some (match d with | .dic => true | _ => false)

/-- the first place of d among ds -/
def firstAt (d : D) : List D → Option Nat
  | [] => none
  | z :: r => if z.eqv d then some 0 else (firstAt d r).map (· + 1)
def rangeD (lo : Int) (c : Int) (n : Nat) : List D := (List.range n).map fun i => .int (lo + (i : Nat) * c)
/-- how many numbers a range has -/
def rangeN (a b c : Int) : Nat := if 0 < c then ((b - a + c - 1) / c).toNat else ((a - b + (-c) - 1) / (-c)).toNat
def bnd (a b : Int) : Prop := -(2 ^ 62) ≤ a ∧ a < 2 ^ 62 ∧ -(2 ^ 62) ≤ b ∧ b < 2 ^ 62
/-- a list's or a tuple's parts -/
def sqD : D → Option (List D)
  | .tup xs => some xs
  | .lst xs => some xs
  | _ => none
def zip3D : List D → List D → List D → List D
  | x :: xs, y :: ys, z :: zs => .tup [x, y, z] :: zip3D xs ys zs
  | _, _, _ => []
/-- what a display of texts has at a text -/
def dlkAt (kvs : List (String × String)) (s : Str) : Option V := valV (mergeK [] (kvs.map fun p => (Sum.inr (Str.ofString p.1), V.str (Str.ofString p.2)))) (Sum.inr s)
def zipD : List D → List D → List D
  | x :: xs, y :: ys => .tup [x, y] :: zipD xs ys
  | _, _ => []
def enumD (k : Nat) : List D → List D
  | [] => []
  | x :: xs => .tup [.int (k : Nat), x] :: enumD (k + 1) xs
/-- slots forgotten -/
def wipeR (ρ : Rho) : List Nat → Rho
  | [] => ρ
  | v :: vs => (wipeR ρ vs).set v none

mutual
def bindT : Tg → D → Rho → (Rho → Prop) → Prop
  | .nm i, d, ρ, P => P (ρ.set i (some (.dat d)))
  | .tp ts, .tup ds, ρ, P => bindTs ts ds ρ P
  | .tp ts, .lst ds, ρ, P => bindTs ts ds ρ P
  | .tp _, _, _, _ => False
def bindTs : Tgs → List D → Rho → (Rho → Prop) → Prop
  | .nil, [], ρ, P => P ρ
  | .cons t ts, d :: ds, ρ, P => bindT t d ρ fun ρ' => bindTs ts ds ρ' P
  | _, _, _, _ => False
end

def varD (ρ : Rho) (i : Nat) (P : D → Prop) : Prop := match ρ[i]? with
  | some (some (.dat d)) => P d
  | _ => False
def varO (ρ : Rho) (i : Nat) (P : List D → Prop) : Prop := match ρ[i]? with
  | some (some (.own xs)) => P xs
  | _ => False

/-- a slot's list, the slot's own or a cell's -/
def varL (ρ : Rho) (C : CM) (i : Nat) (P : List D → Prop) : Prop := match ρ[i]? with
  | some (some (.own xs)) => P xs
  | some (some (.dat (.ref a))) => ∃ xs, C a = some (.lst xs) ∧ P xs
  | _ => False
/-- a slot's value: an own list is let go -/
def varM (ρ : Rho) (i : Nat) (P : D → Rho → Prop) : Prop := match ρ[i]? with
  | some (some (.own xs)) => P (.lst xs) (ρ.set i (some (.dat (.lst xs))))
  | some (some (.dat d)) => P d ρ
  | _ => False

/-- values by written keys -/
def keyed {α : Type} : List String → List α → List (L2.Key × α)
  | k :: ks, x :: xs => (Sum.inr (Str.ofString k), x) :: keyed ks xs
  | _, _ => []
/-- what a dict has at a key -/
def dctAt (kvs : List (L2.Key × D)) (k : L2.Key) : Option D := (kvs.find? fun kv => decide (kv.1 = k)).map (·.2)
def dctPut (kvs : List (L2.Key × D)) (k : L2.Key) (d : D) : List (L2.Key × D) :=
  if (kvs.any fun kv => decide (kv.1 = k)) = true then kvs.map (fun kv => if kv.1 = k then (kv.1, d) else kv) else kvs ++ [(k, d)]
/-- the turns of a comprehension: bt binds the target and asks the element (none: passed over) -/
def compGo (turn : D → CM → (Option D → CM → Prop) → Prop) : List D → List D → CM → (List D → CM → Prop) → Prop
  | [], acc, C, P => P acc C
  | d :: ds, acc, C, P => turn d C fun o C' => match o with
    | some y => acc.length < sizeLine ∧ compGo turn ds (acc ++ [y]) C' P
    | none => compGo turn ds acc C' P
/-- .. over a cell's numbers, that stay as they are meanwhile -/
def compGoC (a : Addr) (ns : List Int) (turn : D → CM → (Option D → CM → Prop) → Prop) : List Int → List D → CM → (List D → CM → Prop) → Prop
  | [], acc, C, P => C a = some (.lst (ns.map .int)) ∧ P acc C
  | d :: ds, acc, C, P => C a = some (.lst (ns.map .int)) ∧ turn (.int d) C fun o C' => match o with
    | some y => acc.length < sizeLine ∧ compGoC a ns turn ds (acc ++ [y]) C' P
    | none => compGoC a ns turn ds acc C' P
/-- what a dict of numbers by texts gives of anything -/
def ggetD (kvs : List (String × Int)) (s : Str) : D := match (kvs.find? fun kv => decide (Str.ofString kv.1 = s)) with
  | some kv => .int kv.2
  | none => .non
/-- what a dict with tuples for keys has at a key -/
def keyOf : List D → Option (List L2.Key)
  | [] => some []
  | .int i :: r => (keyOf r).map (Sum.inl i :: ·)
  | _ :: _ => none
def dtpAt (kvs : List (List L2.Key × D)) (k : List L2.Key) : Option D := (kvs.find? fun kv => decide (kv.1 = k)).map (·.2)
def dtpPut (kvs : List (List L2.Key × D)) (k : List L2.Key) (d : D) : List (List L2.Key × D) :=
  if (kvs.any fun kv => decide (kv.1 = k)) = true then kvs.map (fun kv => if kv.1 = k then (kv.1, d) else kv) else kvs ++ [(k, d)]
def fldAt (fs : List (String × D)) (k : String) : Option D := (fs.find? fun kv => decide (kv.1 = k)).map (·.2)
def fldPut (k : String) (d : D) : List (String × D) → List (String × D)
  | [] => [(k, d)]
  | (x, y) :: r => if x = k then (x, d) :: r else (x, y) :: fldPut k d r
def setC (C : CM) (a : Addr) (c : Cell) : CM := fun b => if b = a then some c else C b
/-- every second one, from the second on -/
def oddD : List D → List D
  | _ :: y :: r => y :: oddD r
  | _ => []
/-- slots' values -/
def capsOf (ρ : Rho) : List Nat → Option (List D)
  | [] => some []
  | j :: js => match ρ[j]? with
    | some (some (.dat d)) => (capsOf ρ js).map (d :: ·)
    | _ => none
mutual
def denE (G : Ctx) : E → Rho → CM → (D → Rho → CM → Prop) → Prop
  | .var i, ρ, C, P => varD ρ i fun d => P d ρ C
  | .mv i, ρ, C, P => varM ρ i fun d ρ1 => P d ρ1 C
  | .non, ρ, C, P => P .non ρ C
  | .bl b, ρ, C, P => P (.bl b) ρ C
  | .int i, ρ, C, P => P (.int i) ρ C
  | .str s, ρ, C, P => P (.str (Str.ofString s)) ρ C
  | .con _ i, ρ, C, P => P (.int i) ρ C
  | .cns _ s, ρ, C, P => P (.str (Str.ofString s)) ρ C
  | .bin o a b, ρ, C, P => denE G a ρ C fun x ρ1 C1 => denE G b ρ1 C1 fun y ρ2 C2 => binR o x y fun d => P d ρ2 C2
  | .neg a, ρ, C, P => denE G a ρ C fun x ρ1 C1 => match x with
    | .int i => P (.int (-i)) ρ1 C1
    | _ => False
  | .cmp o a b, ρ, C, P => denE G a ρ C fun x ρ1 C1 => denE G b ρ1 C1 fun y ρ2 C2 => cmpR o x y fun b => P (.bl b) ρ2 C2
  | .chn o o' a b c, ρ, C, P => denE G a ρ C fun x ρ1 C1 => denE G b ρ1 C1 fun y ρ2 C2 => cmpR o x y fun k =>
      if k = true then denE G c ρ2 C2 fun z ρ3 C3 => cmpR o' y z fun k' => P (.bl k') ρ3 C3 else P (.bl false) ρ2 C2
  | .chn3 o o' o'' a b c d, ρ, C, P => denE G a ρ C fun x ρ1 C1 => denE G b ρ1 C1 fun y ρ2 C2 => cmpR o x y fun k =>
      if k = true then denE G c ρ2 C2 fun z ρ3 C3 => cmpR o' y z fun k' => if k' = true then denE G d ρ3 C3 fun u ρ4 C4 => cmpR o'' z u fun k'' => P (.bl k'') ρ4 C4 else P (.bl false) ρ3 C3 else P (.bl false) ρ2 C2
  | .dlk kvs a, ρ, C, P => denE G a ρ C fun x ρ1 C1 => match x with
    | .str s => ∃ y, dlkAt kvs s = some (.str y) ∧ P (.str y) ρ1 C1
    | _ => False
  | .and a b, ρ, C, P => denE G a ρ C fun x ρ1 C1 => match x with
    | .bl k => if k = true then denE G b ρ1 C1 P else P (.bl false) ρ1 C1
    | _ => False
  | .or a b, ρ, C, P => denE G a ρ C fun x ρ1 C1 => match x with
    | .bl k => if k = true then P (.bl true) ρ1 C1 else denE G b ρ1 C1 P
    | _ => False
  | .not a, ρ, C, P => denE G a ρ C fun x ρ1 C1 => match x with
    | .bl k => P (.bl (!k)) ρ1 C1
    | _ => False
  | .ife t a b, ρ, C, P => denT G t ρ C fun k ρ1 C1 => if k = true then denE G a ρ1 C1 P else denE G b ρ1 C1 P
  | .tup es, ρ, C, P => denEs G es ρ C fun ds ρ1 C1 => ds.length ≤ sizeLine ∧ P (.tup ds) ρ1 C1
  | .frz l, ρ, C, P => denL G l ρ C fun ds ρ1 C1 => P (.lst ds) ρ1 C1
  | .cel l, ρ, C, P => denL G l ρ C fun ds ρ1 C1 => ∀ a, C1 a = none → P (.ref a) ρ1 (fun b => if b = a then some (.lst ds) else C1 b)
  | .ix a b, ρ, C, P => denE G a ρ C fun x ρ1 C1 => denE G b ρ1 C1 fun y ρ2 C2 => itemR C2 x y fun d => P d ρ2 C2
  | .sl a lo hi, ρ, C, P => denE G a ρ C fun x ρ1 C1 => denO G lo ρ1 C1 fun l ρ2 C2 => denO G hi ρ2 C2 fun h ρ3 C3 => sliceR C3 x l h fun d => P d ρ3 C3
  | .rev a, ρ, C, P => denE G a ρ C fun x ρ1 C1 => revR x fun d => P d ρ1 C1
  | .call f es, ρ, C, P => denEs G es ρ C fun ds ρ1 C1 => G.Γ f ds C1 (fun d C2 => P d ρ1 C2) G.ex
  | .blt f es, ρ, C, P => denEs G es ρ C fun ds ρ1 C1 => bltR C1 f ds fun d => P d ρ1 C1
  | .isi a t, ρ, C, P => denE G a ρ C fun x ρ1 C1 => ∃ b, isTy t x = some b ∧ P (.bl b) ρ1 C1
  | .oix i b, ρ, C, P => varO ρ i fun xs => denE G b ρ C fun y ρ1 C1 => ρ1 = ρ ∧ itemR C1 (.lst xs) y fun d => P d ρ1 C1
  | .olen i, ρ, C, P => varO ρ i fun xs => P (.int xs.length) ρ C
  | .one i, ρ, C, P => varL ρ C i fun xs => (D.lst xs).Cmp ∧ P (.bl (!xs.isEmpty)) ρ C
  | .oem i, ρ, C, P => varL ρ C i fun xs => (D.lst xs).Cmp ∧ P (.bl xs.isEmpty) ρ C
  | .lne a, ρ, C, P => denE G a ρ C fun x ρ1 C1 => ∃ xs, lstD C1 x = some xs ∧ P (.bl (!xs.isEmpty)) ρ1 C1
  | .leq a, ρ, C, P => denE G a ρ C fun x ρ1 C1 => ∃ xs, lstD C1 x = some xs ∧ P (.bl xs.isEmpty) ρ1 C1
  | .cne a, ρ, C, P => denE G a ρ C fun x ρ1 C1 => ∃ xs, lstD C1 x = some xs ∧ (D.lst xs).Cmp ∧ P (.bl (!xs.isEmpty)) ρ1 C1
  | .ceq a, ρ, C, P => denE G a ρ C fun x ρ1 C1 => ∃ xs, lstD C1 x = some xs ∧ (D.lst xs).Cmp ∧ P (.bl xs.isEmpty) ρ1 C1
  | .opop i, ρ, C, P => varO ρ i fun xs => ∃ y, xs[xs.length - 1]? = some y ∧ P y (ρ.set i (some (.own xs.dropLast))) C
  | .cpop o, ρ, C, P => denE G o ρ C fun x ρ1 C1 => match x with
    | .ref a => ∃ xs y, C1 a = some (.lst xs) ∧ xs[xs.length - 1]? = some y ∧ P y ρ1 (fun b => if b = a then some (.lst xs.dropLast) else C1 b)
    | _ => False
  | .cpopA o k, ρ, C, P => denE G o ρ C fun x ρ1 C1 => match x with
    | .ref a => ∃ xs0, C1 a = some (.lst xs0) ∧ denE G k ρ1 C1 fun y ρ2 C2 => match y with
      | .int i => ∃ xs j y, C2 a = some (.lst xs) ∧ -(2 ^ 63) ≤ i ∧ i < 2 ^ 63 ∧ seqIndex? i xs.length = some j ∧ xs[j]? = some y ∧ P y ρ2 (fun b => if b = a then some (.lst (xs.eraseIdx j)) else C2 b)
      | _ => False
    | _ => False
  | .celd ks es, ρ, C, P => denEs G es ρ C fun ds ρ1 C1 => ((keyed ks ds).map (·.1)).Nodup ∧ ∀ a, C1 a = none → P (.ref a) ρ1 (fun b => if b = a then some (.dct (keyed ks ds)) else C1 b)
  | .dix a k, ρ, C, P => denE G a ρ C fun x ρ1 C1 => match x with
    | .ref p => ∃ kvs d, C1 p = some (.dct kvs) ∧ dctAt kvs (Sum.inr (Str.ofString k)) = some d ∧ P d ρ1 C1
    | _ => False
  | .edic, ρ, C, P => P .dic ρ C
  | .ndic _ a, ρ, C, P => denE G a ρ C fun _ ρ1 C1 => P .dic ρ1 C1
  | .mxo k a b, ρ, C, P => denE G a ρ C fun x ρ1 C1 => denE G b ρ1 C1 fun y ρ2 C2 => ∃ xs ns, seqD C2 x = some xs ∧ intsOf xs = some ns ∧ P (if ns = [] then y else .int (if k = true then maxI ns else minI ns)) ρ2 C2
  | .gget _ kvs a, ρ, C, P => denE G a ρ C fun x ρ1 C1 => match x with
    | .str s => P (ggetD kvs s) ρ1 C1
    | _ => False
  | .upr a, ρ, C, P => denE G a ρ C fun x ρ1 C1 => match x with
    | .str s => s.length ≤ 5592405 ∧ P (.str (Txt.upper s)) ρ1 C1
    | _ => False
  | .orv a b, ρ, C, P => denE G a ρ C fun x ρ1 C1 => truD x fun k => if k = true then P x ρ1 C1 else denE G b ρ1 C1 P
  | .callv i es, ρ, C, P => varD ρ i fun x => match x with
    | .clo mk f caps => denEs G es ρ C fun ds ρ1 C1 => D.nocs f ds = true ∧ D.nocs f caps = true ∧ G.Γ (cloKey mk) (ds ++ caps) (C1.drop f) (fun d C2 => P d ρ1 (CM.back f C1 C2)) G.ex
    | _ => False
  | .callc g i mk' js es, ρ, C, P => varD ρ i fun x => match x with
    | .opn mk f cl => mk = mk' ∧ cl = G.ex.cl ∧ denEs G es ρ C fun ds ρ1 C1 => ∃ caps, capsOf ρ1 js = some caps ∧ D.nocs f ds = true ∧ D.nocs f caps = true ∧
      G.Γ g (.clo mk f caps :: ds) C1 (fun d C2 => d.noc f = true ∧ P d ρ1 (C2.drop f)) G.ex
    | _ => False
  | .fld cls f a, ρ, C, P => denE G a ρ C fun x ρ1 C1 => match x with
    | .ref p => ∃ fs d, C1 p = some (.ins cls fs) ∧ fldAt fs f = some d ∧ P d ρ1 C1
    | _ => False
  | .meth cls m a es, ρ, C, P => denE G a ρ C fun x ρ1 C1 => match x with
    | .ref p => ∃ fs, C1 p = some (.ins cls fs) ∧ fldAt fs m = none ∧ denEs G es ρ1 C1 fun ds ρ2 C2 => G.Γ (methKey cls m) (.ref p :: ds) C2 (fun d C3 => P d ρ2 C3) G.ex
    | _ => False
  | .make cls es, ρ, C, P => denEs G es ρ C fun ds ρ1 C1 => G.Γ cls ds C1 (fun d C2 => P d ρ1 C2) G.ex
  | .dnt, ρ, C, P => ∀ a, C a = none → P (.ref a) ρ (setC C a (.dtp []))
  | .dgt d k, ρ, C, P => denE G d ρ C fun x ρ1 C1 => denEs G k ρ1 C1 fun ks ρ2 C2 => match x with
    | .ref p => ∃ kvs kk v, C2 p = some (.dtp kvs) ∧ keyOf ks = some kk ∧ ks.length ≤ 100 ∧ dtpAt kvs kk = some v ∧ P v ρ2 C2
    | _ => False
  | .trg1 a, ρ, C, P => denE G a ρ C fun x ρ1 C1 => match x with
    | .int j => RgOk 0 j ∧ P (.tup (rangeD 0 1 (j - 0).toNat)) ρ1 C1
    | _ => False
  | .indx a b, ρ, C, P => denE G a ρ C fun x ρ1 C1 => match x with
    | .lst xs => denE G b ρ1 C1 fun y ρ2 C2 => (D.lst xs).Cmp ∧ y.Cmp ∧ ∃ j, firstAt y xs = some j ∧ P (.int (j : Nat)) ρ2 C2
    | _ => False
def denT (G : Ctx) : T → Rho → CM → (Bool → Rho → CM → Prop) → Prop
  | .and a b, ρ, C, P => denT G a ρ C fun k ρ1 C1 => if k = true then denT G b ρ1 C1 P else P false ρ1 C1
  | .or a b, ρ, C, P => denT G a ρ C fun k ρ1 C1 => if k = true then P true ρ1 C1 else denT G b ρ1 C1 P
  | .not a, ρ, C, P => denT G a ρ C fun k ρ1 C1 => P (!k) ρ1 C1
  | .cmp o a b, ρ, C, P => denE G a ρ C fun x ρ1 C1 => denE G b ρ1 C1 fun y ρ2 C2 => cmpR o x y fun b => P b ρ2 C2
  | .chn o o' a b c, ρ, C, P => denE G a ρ C fun x ρ1 C1 => denE G b ρ1 C1 fun y ρ2 C2 => cmpR o x y fun k =>
      if k = true then denE G c ρ2 C2 fun z ρ3 C3 => cmpR o' y z fun k' => P k' ρ3 C3 else P false ρ2 C2
  | .chn3 o o' o'' a b c d, ρ, C, P => denE G a ρ C fun x ρ1 C1 => denE G b ρ1 C1 fun y ρ2 C2 => cmpR o x y fun k =>
      if k = true then denE G c ρ2 C2 fun z ρ3 C3 => cmpR o' y z fun k' => if k' = true then denE G d ρ3 C3 fun u ρ4 C4 => cmpR o'' z u fun k'' => P k'' ρ4 C4 else P false ρ3 C3 else P false ρ2 C2
  | .one i, ρ, C, P => varL ρ C i fun xs => (D.lst xs).Cmp ∧ P (!xs.isEmpty) ρ C
  | .oem i, ρ, C, P => varL ρ C i fun xs => (D.lst xs).Cmp ∧ P xs.isEmpty ρ C
  | .tne a, ρ, C, P => denE G a ρ C fun x ρ1 C1 => match x with | .tup xs => P (!xs.isEmpty) ρ1 C1 | _ => False
  | .teq a, ρ, C, P => denE G a ρ C fun x ρ1 C1 => match x with | .tup xs => P xs.isEmpty ρ1 C1 | _ => False
  | .lne a, ρ, C, P => denE G a ρ C fun x ρ1 C1 => ∃ xs, lstD C1 x = some xs ∧ P (!xs.isEmpty) ρ1 C1
  | .leq a, ρ, C, P => denE G a ρ C fun x ρ1 C1 => ∃ xs, lstD C1 x = some xs ∧ P xs.isEmpty ρ1 C1
  | .cne a, ρ, C, P => denE G a ρ C fun x ρ1 C1 => ∃ xs, lstD C1 x = some xs ∧ (D.lst xs).Cmp ∧ P (!xs.isEmpty) ρ1 C1
  | .ceq a, ρ, C, P => denE G a ρ C fun x ρ1 C1 => ∃ xs, lstD C1 x = some xs ∧ (D.lst xs).Cmp ∧ P xs.isEmpty ρ1 C1
  | .din k d, ρ, C, P => denEs G k ρ C fun ks ρ1 C1 => ks.length ≤ 100 ∧ denE G d ρ1 C1 fun x ρ2 C2 => match x with
    | .ref p => ∃ kvs kk, C2 p = some (.dtp kvs) ∧ keyOf ks = some kk ∧ P (dtpAt kvs kk).isSome ρ2 C2
    | _ => False
  | .dnin k d, ρ, C, P => denEs G k ρ C fun ks ρ1 C1 => ks.length ≤ 100 ∧ denE G d ρ1 C1 fun x ρ2 C2 => match x with
    | .ref p => ∃ kvs kk, C2 p = some (.dtp kvs) ∧ keyOf ks = some kk ∧ P (!(dtpAt kvs kk).isSome) ρ2 C2
    | _ => False
  | .val e, ρ, C, P => denE G e ρ C fun d ρ1 C1 => truD d fun b => P b ρ1 C1
def denEs (G : Ctx) : Es → Rho → CM → (List D → Rho → CM → Prop) → Prop
  | .nil, ρ, C, P => P [] ρ C
  | .cons e es, ρ, C, P => denE G e ρ C fun x ρ1 C1 => denEs G es ρ1 C1 fun xs ρ2 C2 => P (x :: xs) ρ2 C2
def denO (G : Ctx) : O → Rho → CM → (Option Int → Rho → CM → Prop) → Prop
  | .no, ρ, C, P => P none ρ C
  | .yes e, ρ, C, P => denE G e ρ C fun x ρ1 C1 => match x with
    | .int i => P (some i) ρ1 C1
    | _ => False
def denC (G : Ctx) : Oc → Rho → CM → (Bool → Rho → CM → Prop) → Prop
  | .no, ρ, C, P => P true ρ C
  | .yes e, ρ, C, P => denT G e ρ C P
def denL (G : Ctx) : L → Rho → CM → (List D → Rho → CM → Prop) → Prop
  | .lit es, ρ, C, P => denEs G es ρ C fun ds ρ1 C1 => ds.length ≤ sizeLine ∧ P ds ρ1 C1
  | .comp own elt tg it c, ρ, C, P => denI G it ρ C fun ds ρ1 C1 =>
      compGo (fun d C2 K => bindT tg d (wipeR ρ1 own) fun ρ2 => denC G c ρ2 C2 fun b ρ3 C3 => ρ3 = ρ2 ∧
        if b = true then denE G elt ρ3 C3 fun y ρ4 C4 => ρ4 = ρ2 ∧ K (some y) C4 else K none C3) ds [] C1 fun acc C4 => P acc ρ1 C4
  | .compc own elt tg e c, ρ, C, P => denE G e ρ C fun x ρ1 C1 => match x with
    | .ref a => ∃ ns : List Int, compGoC a ns (fun d C2 K => bindT tg d (wipeR ρ1 own) fun ρ2 => denC G c ρ2 C2 fun b ρ3 C3 => ρ3 = ρ2 ∧
        if b = true then denE G elt ρ3 C3 fun y ρ4 C4 => ρ4 = ρ2 ∧ K (some y) C4 else K none C3) ns [] C1 fun acc C4 => P acc ρ1 C4
    | _ => False
  | .list e, ρ, C, P => denE G e ρ C fun x ρ1 C1 => match x with
    | .tup xs => P xs ρ1 C1
    | .lst xs => P xs ρ1 C1
    | _ => False
  | .srt e, ρ, C, P => denE G e ρ C fun x ρ1 C1 => match x with
    | .lst xs => ∃ ns, intsOf xs = some ns ∧ P ((sortI ns).map D.int) ρ1 C1
    | _ => False
  | .srr e, ρ, C, P => denE G e ρ C fun x ρ1 C1 => match x with
    | .lst xs => ∃ ns, intsOf xs = some ns ∧ P ((sortI ns).reverse.map D.int) ρ1 C1
    | _ => False
  | .lrg1 a, ρ, C, P => denE G a ρ C fun x ρ1 C1 => match x with
    | .int j => RgOk 0 j ∧ P (rangeD 0 1 (j - 0).toNat) ρ1 C1
    | _ => False
  | .lrg2 a b, ρ, C, P => denE G a ρ C fun x ρ1 C1 => denE G b ρ1 C1 fun y ρ2 C2 => match x, y with
    | .int i, .int j => RgOk i j ∧ P (rangeD i 1 (j - i).toNat) ρ2 C2
    | _, _ => False
  | .lrv a, ρ, C, P => denE G a ρ C fun x ρ1 C1 => ∃ xs, lstD C1 x = some xs ∧ P xs.reverse ρ1 C1
  | .ls2 a, ρ, C, P => denE G a ρ C fun x ρ1 C1 => ∃ xs, lstD C1 x = some xs ∧ P (xs.take (xs.length - 1)).reverse ρ1 C1
  | .odd a, ρ, C, P => denE G a ρ C fun x ρ1 C1 => match x with
    | .lst xs => P (oddD xs) ρ1 C1
    | _ => False
  | .rep a b, ρ, C, P => denE G a ρ C fun x ρ1 C1 => denE G b ρ1 C1 fun y ρ2 C2 => match x, y with
    | .lst xs, .int k => -(2 ^ 63) ≤ k ∧ k < 2 ^ 63 ∧ xs.length * k.toNat ≤ sizeLine ∧ P (List.replicate k.toNat xs).flatten ρ2 C2
    | _, _ => False
  | .cat a b, ρ, C, P => denE G a ρ C fun x ρ1 C1 => denE G b ρ1 C1 fun y ρ2 C2 => ∃ xs ys, lstD C2 x = some xs ∧ lstD C2 y = some ys ∧ xs.length + ys.length ≤ sizeLine ∧ P (xs ++ ys) ρ2 C2
  | .rvd a, ρ, C, P => denE G a ρ C fun x ρ1 C1 => ∃ xs, lstD C1 x = some xs ∧ P xs.reverse ρ1 C1
  | .cato a i, ρ, C, P => denE G a ρ C fun x ρ1 C1 => varO ρ1 i fun ys => ∃ xs, lstD C1 x = some xs ∧ xs.length + ys.length ≤ sizeLine ∧ P (xs ++ ys) ρ1 C1
def denI (G : Ctx) : I → Rho → CM → (List D → Rho → CM → Prop) → Prop
  | .seq e, ρ, C, P => denE G e ρ C fun x ρ1 C1 => match x with
    | .tup xs => P xs ρ1 C1
    | .lst xs => P xs ρ1 C1
    | _ => False
  | .rng1 a, ρ, C, P => denE G a ρ C fun x ρ1 C1 => match x with
    | .int j => -(2 ^ 62) ≤ j ∧ j < 2 ^ 62 ∧ P (rangeD 0 1 j.toNat) ρ1 C1
    | _ => False
  | .rng2 a b, ρ, C, P => denE G a ρ C fun x ρ1 C1 => denE G b ρ1 C1 fun y ρ2 C2 => match x, y with
    | .int i, .int j => bnd i j ∧ P (rangeD i 1 (j - i).toNat) ρ2 C2
    | _, _ => False
  | .rng3 a b c, ρ, C, P => denE G a ρ C fun x ρ1 C1 => denE G b ρ1 C1 fun y ρ2 C2 => denE G c ρ2 C2 fun z ρ3 C3 => match x, y, z with
    | .int i, .int j, .int k => bnd i j ∧ k = -1 ∧ P (rangeD i k (i - j).toNat) ρ3 C3
    | _, _, _ => False
  | .enum e, ρ, C, P => denE G e ρ C fun x ρ1 C1 => match x with
    | .tup xs => P (enumD 0 xs) ρ1 C1
    | .lst xs => P (enumD 0 xs) ρ1 C1
    | _ => False
  | .zip a b, ρ, C, P => denE G a ρ C fun x ρ1 C1 => denE G b ρ1 C1 fun y ρ2 C2 => ∃ xs ys, sqD x = some xs ∧ sqD y = some ys ∧ P (zipD xs ys) ρ2 C2
  | .zip3 a b c, ρ, C, P => denE G a ρ C fun x ρ1 C1 => denE G b ρ1 C1 fun y ρ2 C2 => denE G c ρ2 C2 fun z ρ3 C3 => ∃ xs ys zs, sqD x = some xs ∧ sqD y = some ys ∧ sqD z = some zs ∧ P (zip3D xs ys zs) ρ3 C3
  | .rvs e, ρ, C, P => denE G e ρ C fun x ρ1 C1 => match x with
    | .tup xs => P xs.reverse ρ1 C1
    | .lst xs => P xs.reverse ρ1 C1
    | _ => False
  | .rvr a b, ρ, C, P => denE G a ρ C fun x ρ1 C1 => denE G b ρ1 C1 fun y ρ2 C2 => match x, y with
    | .int i, .int j => bnd i j ∧ P (rangeD (i + (((j - i).toNat : Nat) : Int) - 1) (-1) (j - i).toNat) ρ2 C2
    | _, _ => False
  | .rvr1 a, ρ, C, P => denE G a ρ C fun x ρ1 C1 => match x with
    | .int j => bnd 0 j ∧ P (rangeD (0 + (((j - 0).toNat : Nat) : Int) - 1) (-1) (j - 0).toNat) ρ1 C1
    | _ => False
  | .sgn e, ρ, C, P => denE G e ρ C fun x ρ1 C1 => match x with
    | .str z => P (sgnD z) ρ1 C1
    | _ => False
end

structure AEnds where
  nx : Rho → CM → Prop
  rt : D → CM → Prop
  bk : Rho → CM → Prop := fun _ _ => False
  ct : Rho → CM → Prop := fun _ _ => False

def forGo (tg : Tg) (body : AEnds → Rho → CM → Prop) (A : AEnds) : List D → Rho → CM → Prop
  | [], ρ, C => A.nx ρ C
  | d :: ds, ρ, C => bindT tg d ρ fun ρ1 => body { A with nx := forGo tg body A ds, ct := forGo tg body A ds, bk := A.nx } ρ1 C
/-- .. over a cell's numbers, that stay as they are meanwhile -/
def forGoC (a : Addr) (ns : List Int) (tg : Tg) (body : AEnds → Rho → CM → Prop) (A : AEnds) : List Int → Rho → CM → Prop
  | [], ρ, C => C a = some (.lst (ns.map .int)) ∧ A.nx ρ C
  | d :: ds, ρ, C => C a = some (.lst (ns.map .int)) ∧ bindT tg (.int d) ρ fun ρ1 => body { A with nx := forGoC a ns tg body A ds, ct := forGoC a ns tg body A ds, bk := A.nx } ρ1 C
def whlGo (t : Rho → CM → (Bool → Rho → CM → Prop) → Prop) (body : AEnds → Rho → CM → Prop) (A : AEnds) : Nat → Rho → CM → Prop
  | 0, _, _ => False
  | n + 1, ρ, C => t ρ C fun b ρ1 C1 => if b = true then body { A with nx := whlGo t body A n, ct := whlGo t body A n, bk := A.nx } ρ1 C1 else A.nx ρ1 C1

mutual
def denS (G : Ctx) : S → AEnds → Rho → CM → Prop
  | .set i e, A, ρ, C => denE G e ρ C fun d ρ1 C1 => A.nx (ρ1.set i (some (.dat d))) C1
  | .own i l, A, ρ, C => denL G l ρ C fun ds ρ1 C1 => A.nx (ρ1.set i (some (.own ds))) C1
  | .setF i l, A, ρ, C => denL G l ρ C fun ds ρ1 C1 => A.nx (ρ1.set i (some (.dat (.lst ds)))) C1
  | .unp tg e, A, ρ, C => denE G e ρ C fun d ρ1 C1 => bindT tg d ρ1 fun ρ2 => A.nx ρ2 C1
  | .par2 i j es, A, ρ, C => denEs G es ρ C fun ds ρ1 C1 => match ds with
    | [d, e] => A.nx ((ρ1.set i (some (.dat d))).set j (some (.dat e))) C1
    | _ => False
  | .par3 i j l es, A, ρ, C => denEs G es ρ C fun ds ρ1 C1 => match ds with
    | [d, e, f] => A.nx (((ρ1.set i (some (.dat d))).set j (some (.dat e))).set l (some (.dat f))) C1
    | _ => False
  | .aug i o e, A, ρ, C => varD ρ i fun x => denE G e ρ C fun y ρ1 C1 => match o, x, y with
    | .add, .int a, .int b => A.nx (ρ1.set i (some (.dat (.int (a + b))))) C1
    | .sub, .int a, .int b => A.nx (ρ1.set i (some (.dat (.int (a - b))))) C1
    | _, _, _ => False
  | .app i e, A, ρ, C => varO ρ i fun _ => denE G e ρ C fun d ρ1 C1 => varO ρ1 i fun xs => xs.length < sizeLine ∧ A.nx (ρ1.set i (some (.own (xs ++ [d])))) C1
  | .oset i k e, A, ρ, C => denE G e ρ C fun d ρ1 C1 => varO ρ1 i fun _ => denE G k ρ1 C1 fun x ρ2 C2 => varO ρ2 i fun xs => match x with
    | .int j => ∃ n, ixN xs.length j = some n ∧ A.nx (ρ2.set i (some (.own (xs.set n d)))) C2
    | _ => False
  | .oaug i k o e, A, ρ, C => varO ρ i fun _ => denE G k ρ C fun x ρ1 C1 => varO ρ1 i fun xs => match x with
    | .int j => ∃ n y, ixN xs.length j = some n ∧ xs[n]? = some (.int y) ∧ denE G e ρ1 C1 fun z ρ2 C2 => ρ2 = ρ1 ∧ match o, z with
      | .add, .int u => A.nx (ρ2.set i (some (.own (xs.set n (.int (y + u)))))) C2
      | .sub, .int u => A.nx (ρ2.set i (some (.own (xs.set n (.int (y - u)))))) C2
      | _, _ => False
    | _ => False
  | .ext i e, A, ρ, C => varO ρ i fun _ => denE G e ρ C fun d ρ1 C1 => varO ρ1 i fun xs => match d with
    | .lst ys => xs.length + ys.length ≤ sizeLine ∧ A.nx (ρ1.set i (some (.own (xs ++ ys)))) C1
    | _ => False
  | .csub o k e, A, ρ, C => denE G e ρ C fun d ρ1 C1 => denE G o ρ1 C1 fun x ρ2 C2 => denE G k ρ2 C2 fun y ρ3 C3 => match x, y with
    | .ref a, .int j => ∃ xs n, C3 a = some (.lst xs) ∧ ixN xs.length j = some n ∧ A.nx ρ3 (fun b => if b = a then some (.lst (xs.set n d)) else C3 b)
    | _, _ => False
  | .capp o e, A, ρ, C => denE G o ρ C fun x ρ1 C1 => match x with
    | .ref a => ∃ xs0, C1 a = some (.lst xs0) ∧ denE G e ρ1 C1 fun d ρ2 C2 => ∃ xs, C2 a = some (.lst xs) ∧ xs.length < sizeLine ∧ A.nx ρ2 (fun b => if b = a then some (.lst (xs ++ [d])) else C2 b)
    | _ => False
  | .cins o k e, A, ρ, C => denE G o ρ C fun x ρ1 C1 => match x with
    | .ref a => ∃ xs0, C1 a = some (.lst xs0) ∧ denE G k ρ1 C1 fun y ρ2 C2 => denE G e ρ2 C2 fun d ρ3 C3 => match y with
      | .int i => ∃ xs, C3 a = some (.lst xs) ∧ xs.length < sizeLine ∧ 0 ≤ i ∧ i < 2 ^ 63 ∧ A.nx ρ3 (fun b => if b = a then some (.lst (xs.take i.toNat ++ [d] ++ xs.drop i.toNat)) else C3 b)
      | _ => False
    | _ => False
  | .dset o k e, A, ρ, C => denE G e ρ C fun d ρ1 C1 => denE G o ρ1 C1 fun x ρ2 C2 => match x with
    | .ref p => ∃ kvs, C2 p = some (.dct kvs) ∧ kvs.length < sizeLine ∧ A.nx ρ2 (fun b => if b = p then some (.dct (dctPut kvs (Sum.inr (Str.ofString k)) d)) else C2 b)
    | _ => False
  | .fset cls f o e, A, ρ, C => denE G e ρ C fun d ρ1 C1 => denE G o ρ1 C1 fun x ρ2 C2 => match x with
    | .ref p => ∃ fs, C2 p = some (.ins cls fs) ∧ fs.length < 1000 ∧ A.nx ρ2 (setC C2 p (.ins cls (fldPut f d fs)))
    | _ => False
  | .dpt o k e, A, ρ, C => denE G e ρ C fun d ρ1 C1 => denE G o ρ1 C1 fun x ρ2 C2 => denEs G k ρ2 C2 fun ks ρ3 C3 => match x with
    | .ref p => ∃ kvs kk, C3 p = some (.dtp kvs) ∧ keyOf ks = some kk ∧ ks.length ≤ 100 ∧ kvs.length < sizeLine ∧ A.nx ρ3 (setC C3 p (.dtp (dtpPut kvs kk d)))
    | _ => False
  | .ndef i mk, A, ρ, C => ∀ f, CM.fresh f C → (∀ (j : Nat) (d : D), ρ[j]? = some (some (Dv.dat d)) → d.noc f = true) → A.nx (ρ.set i (some (.dat (.opn mk f G.ex.cl)))) C
  | .mkr mk js, A, ρ, C => ∃ caps, capsOf ρ js = some caps ∧ ∀ f, CM.fresh f C → D.nocs f caps = true → A.rt (.clo mk f caps) C
  | .mkc cls, A, ρ, C => ∃ ds, capsOf ρ (List.range ρ.length) = some ds ∧ ∀ a, C a = none → G.Γ (methKey cls "__init__") (.ref a :: ds) (setC C a (.ins cls [])) (fun d C2 => d = .non ∧ A.rt (.ref a) C2) G.ex
  | .exp e, A, ρ, C => denE G e ρ C fun _ ρ1 C1 => A.nx ρ1 C1
  | .ife t a b, A, ρ, C => denT G t ρ C fun k ρ1 C1 => if k = true then denSs G a A ρ1 C1 else denSs G b A ρ1 C1
  | .for tg it b, A, ρ, C => denI G it ρ C fun ds ρ1 C1 => forGo tg (denSs G b) A ds ρ1 C1
  | .forc tg e b, A, ρ, C => denE G e ρ C fun x ρ1 C1 => match x with
    | .ref a => ∃ ns : List Int, forGoC a ns tg (denSs G b) A ns ρ1 C1
    | _ => False
  | .whl t b, A, ρ, C => ∃ n, whlGo (denT G t) (denSs G b) A n ρ C
  | .ret e, A, ρ, C => denE G e ρ C fun d _ C1 => A.rt d C1
  | .ret0, A, _, C => A.rt .non C
  | .pass, A, ρ, C => A.nx ρ C
  | .brk, A, ρ, C => A.bk ρ C
  | .cnt, A, ρ, C => A.ct ρ C
  | .nev, _, _, _ => False
def denSs (G : Ctx) : Ss → AEnds → Rho → CM → Prop
  | .nil, A, ρ, C => A.nx ρ C
  | .cons s ss, A, ρ, C => denS G s { A with nx := denSs G ss A } ρ C
end

/-- cells forgotten -/
def CM.Sub (C C' : CM) : Prop := ∀ a c, C a = some c → C' a = some c
/-- a call of a def -/
def denF (G : Ctx) (f : Def) (ds : List D) (C : CM) (P : D → CM → Prop) : Prop :=
  ds.length = f.ps ∧ denSs G f.body { nx := fun _ C' => ∃ C'', CM.Sub C'' C' ∧ P .non C'', rt := fun d C' => ∃ C'', CM.Sub C'' C' ∧ P d C'' } (ds.map (fun d => some (.dat d)) ++ List.replicate (f.ns - f.ps) none) C
/-- calls, so many deep -/
def Gm (tab : List (String × Def)) : Nat → Gam
  | 0 => fun _ _ _ _ _ => False
  | n + 1 => fun f ds C P ex => ∃ d, tab.lookup f = some d ∧ ∀ cl, denF ⟨Gm tab n, { ex with cl := cl }⟩ d ds C P
end M61

set_option Elab.async false
set_option linter.all false
set_option autoImplicit false
set_option maxRecDepth 100000
/-! M3a: the operations, as the layer's rules have them. -/
namespace M61
open PySem PySem.Spec PyProof.Rows L2

/-- a two-place operation of abstract values -/
def lift2 (K : PySem.W.Frag) (r : D → D → (D → Prop) → Prop) : R2 := fun x y H Q => ∃ (F : Hp) (dx dy : D) (P : D → Prop), Same F H ∧ Rep K F x dx ∧ Rep K F y dy ∧ r dx dy P ∧
  ∀ d F' v H', Grow F H F' H' → Rep K F' v d → P d → Q v H'
def lift1 (K : PySem.W.Frag) (r : D → (D → Prop) → Prop) : V → Hp → VK → Prop := fun x H Q => ∃ (F : Hp) (dx : D) (P : D → Prop), Same F H ∧ Rep K F x dx ∧ r dx P ∧
  ∀ d F' v H', Grow F H F' H' → Rep K F' v d → P d → Q v H'
def liftN (K : PySem.W.Frag) (r : List D → (D → Prop) → Prop) : List V → Hp → VK → Prop := fun xs H Q => ∃ (F : Hp) (ds : List D) (P : D → Prop), Same F H ∧ Reps K F xs ds ∧ r ds P ∧
  ∀ d F' v H', Grow F H F' H' → Rep K F' v d → P d → Q v H'

theorem Rep.int_inv {K : PySem.W.Frag} {F : Hp} {v : V} {i : Int} (h : Rep K F v (.int i)) : v = .int i := by cases h; rfl
theorem Rep.bl_inv {K : PySem.W.Frag} {F : Hp} {v : V} {i : Bool} (h : Rep K F v (.bl i)) : v = .bl i := by cases h; rfl
theorem Rep.str_inv {K : PySem.W.Frag} {F : Hp} {v : V} {i : Str} (h : Rep K F v (.str i)) : v = .str i := by cases h; rfl
theorem Rep.non_inv {K : PySem.W.Frag} {F : Hp} {v : V} (h : Rep K F v .non) : v = .non := by cases h; rfl
theorem Rep.ref_inv {K : PySem.W.Frag} {F : Hp} {v : V} {a : Addr} (h : Rep K F v (.ref a)) : v = .ref a := by cases h; rfl
theorem Rep.tup_inv {K : PySem.W.Frag} {F : Hp} {v : V} {ds : List D} (h : Rep K F v (.tup ds)) : ∃ a xs, v = .ref a ∧ SqT K F a xs ∧ Reps K F xs ds := by cases h with | tup h r => exact ⟨_, _, rfl, h, r⟩
theorem Rep.lst_inv {K : PySem.W.Frag} {F : Hp} {v : V} {ds : List D} (h : Rep K F v (.lst ds)) : ∃ a xs, v = .ref a ∧ F a = some (HO.lst xs) ∧ Reps K F xs ds := by cases h with | lst h r => exact ⟨_, _, rfl, h, r⟩
theorem Rep.scr_inv {K : PySem.W.Frag} {F : Hp} {v : V} {ds : List D} (h : Rep K F v (.scr ds)) : ∃ a xs, v = .ref a ∧ SqL K F a xs ∧ Reps K F xs ds := by cases h with | scr h r => exact ⟨_, _, rfl, h, r⟩

mutual
theorem rep_dp {K : PySem.W.Frag} {F : Hp} : ∀ {v : V} {d : D}, Rep K F v d → d.pure = true → Dp K F v d.py
  | _, _, .non, _ => .non
  | _, _, .bl b, _ => .bl b
  | _, _, .int i, _ => .int i
  | _, _, .str x, _ => .str x
  | _, _, .tup h r, p => .tup h (reps_dp r p)
  | _, _, .lst h r, p => .lst (.of h) (reps_dp r p)
  | _, _, .scr h r, p => by cases p
  | _, _, .ref a, p => by cases p
theorem reps_dp {K : PySem.W.Frag} {F : Hp} : ∀ {vs : List V} {ds : List D}, Reps K F vs ds → D.pures ds = true → DpAll K F vs (D.pys ds)
  | _, _, .nil, _ => .nil
  | _, _, .cons r t, p => by
    have p' : D.pure _ = true ∧ D.pures _ = true := Bool.and_eq_true_iff.mp p
    exact .cons (rep_dp r p'.1) (reps_dp t p'.2)
end

theorem OpR.weak {X : Cx} {f : Value → Value → Sem Value} {r r' : R2} (h : OpR X f r) (k : ∀ x y H Q, r' x y H Q → r x y H Q) : OpR X f r' :=
  fun pins s σ H x y v u Q I rx ry q => h pins s σ H x y v u Q I rx ry (k _ _ _ _ q)
theorem CallR.weak {X : Cx} {f : Value} {r r' : List V → Hp → VK → Prop} (h : CallR X f r) (k : ∀ xs H Q, r' xs H Q → r xs H Q) : CallR X f r' :=
  fun pins s σ H xs us Q I rx q => h pins s σ H xs us Q I rx (k _ _ _ q)
theorem CallR.or {X : Cx} {f : Value} {r r' : List V → Hp → VK → Prop} (h : CallR X f r) (h' : CallR X f r') : CallR X f (fun xs H Q => r xs H Q ∨ r' xs H Q) :=
  fun pins s σ H xs us Q I rx q => q.elim (h pins s σ H xs us Q I rx) (h' pins s σ H xs us Q I rx)

section
variable {X : Cx}
def popOf : Bop → Operator
  | .add => .Add | .sub => .Sub | .mul => .Mult | .fdiv => .FloorDiv | .mod => .Mod | .pow => .Pow | .shl => .LShift

theorem catT_sound {F H : Hp} {x y : V} {xs ys : List D} {P : D → Prop} {Q : VK} (s : Same F H) (r1 : Rep X.K F x (.tup xs)) (r2 : Rep X.K F y (.tup ys)) (hz : xs.length + ys.length ≤ sizeLine) (p : P (.tup (xs ++ ys)))
    (k : ∀ d F' v H', Grow F H F' H' → Rep X.K F' v d → P d → Q v H') : rCatA X.K x y H Q := by
  obtain ⟨a, vs, rfl, ha, ra⟩ := r1.tup_inv
  obtain ⟨b, ws, rfl, hb, rb⟩ := r2.tup_inv
  refine ⟨a, b, vs, ws, rfl, rfl, sqT_same s ha, sqT_same s hb, ?_, fun e => ?_, fun e e2 => ?_, fun e e2 q hq => ?_⟩
  · rw [ra.length, rb.length]; exact hz
  · subst e
    cases ra
    exact k _ F _ H (Grow.refl s) (.tup hb rb) p
  · subst e2
    cases rb
    rw [List.append_nil] at p
    exact k _ F _ H (Grow.refl s) (.tup ha ra) p
  · have g := Grow.new (o := HO.tup (vs ++ ws)) s hq
    exact k _ _ _ _ g (.tup (SqT.of upd_same) ((ra.append rb).mono g.ff)) p


theorem tuple_mulSame (l : Addr) (items : Array Value) (n : Nat) (dd : Option Addr) (sl : Array (Option Value)) (x : Int) (u : Tok) (c0 : (decide (x < -(2 ^ 63)) || decide (x ≥ 2 ^ 63)) = false) (c1 : (items.isEmpty || x == 1) = true) :
    Meets (Builtin.«tuple.__mul__» ⟨[.ref l, .int x u], []⟩) (fun _ R s => s.heap.get? l = some { cls := .type "tuple", dict := dd, data := .seq items n, slots := sl } ∧
      R (.ok (.ret (Value.ref l))) s) :=
  .of_wp fun prog w A R s h => by
    obtain ⟨hp, g, d, tk, os⟩ := s
    obtain ⟨hl, h⟩ := h
    have f1 := AutoSeq1.idx_int
    wp_walk using wpAny_loadPart' hl
    repeat (first
      | (refine wpAny_ite_false (decide_eq_false (by rw [c0]; exact Bool.false_ne_true)) ?_; wp_walk using wpAny_loadPart' hl)
      | (refine wpAny_ite_true (decide_eq_true (by rw [c1])) ?_; wp_walk using wpAny_loadPart' hl))
    exact ⟨_, rfl, h⟩
theorem tuple_mulNone (l : Addr) (items : Array Value) (n : Nat) (dd : Option Addr) (sl : Array (Option Value)) (x : Int) (u : Tok) (c0 : (decide (x < -(2 ^ 63)) || decide (x ≥ 2 ^ 63)) = false) (c1 : (items.isEmpty || x == 1) = false) (c2 : (decide (x ≤ 0) || items.isEmpty) = true) :
    Meets (Builtin.«tuple.__mul__» ⟨[.ref l, .int x u], []⟩) (fun _ R s => s.heap.get? l = some { cls := .type "tuple", dict := dd, data := .seq items n, slots := sl } ∧
      R (.ok (.ret (Value.ref s.heap.objs.size))) { s with heap := s.heap.push { cls := Value.type "tuple", data := Data.seq #[] }, toks := s.toks }) :=
  .of_wp fun prog w A R s h => by
    obtain ⟨hp, g, d, tk, os⟩ := s
    obtain ⟨hl, h⟩ := h
    have f1 := AutoSeq1.idx_int
    wp_walk using wpAny_loadPart' hl
    repeat (first
      | (refine wpAny_ite_false (decide_eq_false (by rw [c0]; exact Bool.false_ne_true)) ?_; wp_walk using wpAny_loadPart' hl)
      | (refine wpAny_ite_false (decide_eq_false (by rw [c1]; exact Bool.false_ne_true)) ?_; wp_walk using wpAny_loadPart' hl)
      | (refine wpAny_ite_true (decide_eq_true (by rw [c2])) ?_; wp_walk using wpAny_loadPart' hl))
    exact ⟨_, rfl, h⟩
def rRepAny (K : PySem.W.Frag) : R2 := fun x y H Q => ∃ l k xs, x = .ref l ∧ y = .int k ∧ SqT K H l xs ∧ -1000 ≤ k ∧ k ≤ 1000 ∧ xs.length ≤ 1000 ∧
  ((xs = [] ∨ k = 1) → Q (.ref l) H) ∧ (xs ≠ [] → k ≠ 1 → ∀ p, H p = none → Q (.ref p) (upd H p (.tup (List.replicate k.toNat xs).flatten)))
theorem op_repAny : OpR X (binaryOp .Mult) (rRepAny X.K) := by
  intro pins s σ H x y v u Q I rx ry h
  obtain ⟨l, k, xs, rfl, rfl, hT, h1, h2, hz, q1, q2⟩ := h
  by_cases e : xs = [] ∨ k = 1
  · cases rx
    obtain ⟨t, rfl⟩ := ry
    obtain ⟨its, r, ⟨⟨cls, dd, data, sl⟩, ho, hc, n, hd⟩, hs⟩ := I.tuple hT
    simp only at hc hd
    subst hc hd
    have hle : its.length = xs.length := r.length.symm
    have c0 : (decide (k < -(2 ^ 63)) || decide (k ≥ 2 ^ 63)) = false := by
      rw [decide_eq_false (by omega), decide_eq_false (by omega)] <;> rfl
    have c1 : (its.toArray.isEmpty || k == 1) = true := by
      rcases e with e | e
      · rw [e] at hle
        rw [List.eq_nil_of_length_eq_zero hle]; rfl
      · rw [e]; simp
    refine wpAny_binaryOp_repeat_ref (T := "tuple") (U := "int") (by decide) ⟨_, ho, rfl⟩ (fun s' => typeIs_int s' k t) noFill_tuple_mul F.fills_int_mul F.slot_int_rmul repeat_tuple F.slot_int_index.lookup
      (call_meets F.slot_int_rmul (typeIs_int s k t) F.entry_int_rmul (F.args_int_rmul_2 _ _) (int_rmul_tuple k t l its.toArray n dd sl)
        ⟨ho, rfl, ⟨_, ho, rfl⟩, call_meets F.slot_tuple_mul ⟨_, ho, rfl⟩ F.entry_tuple_mul (F.args_tuple_mul_2 _ _) (tuple_mulSame l its.toArray n dd sl k t c0 c1) ⟨ho, ?_⟩⟩)
    exact ⟨.ref l, H, I, rfl, q1 e⟩
  · have e1 : xs ≠ [] := fun z => e (.inl z)
    have e2 : k ≠ 1 := fun z => e (.inr z)
    by_cases h0 : 2 ≤ k
    · exact op_repT pins s σ H _ _ v u Q I rx ry ⟨l, k, xs, rfl, rfl, hT, e1, h0, h2, hz, q2 e1 e2⟩
    · cases rx
      obtain ⟨t, rfl⟩ := ry
      obtain ⟨its, r, ⟨⟨cls, dd, data, sl⟩, ho, hc, n, hd⟩, hs⟩ := I.tuple hT
      simp only at hc hd
      subst hc hd
      have hle : its.length = xs.length := r.length.symm
      have hi : its.toArray.isEmpty = false := by
        cases its with
        | nil => exact absurd (List.eq_nil_of_length_eq_zero hle.symm) e1
        | cons a b => rfl
      have c0 : (decide (k < -(2 ^ 63)) || decide (k ≥ 2 ^ 63)) = false := by
        rw [decide_eq_false (by omega), decide_eq_false (by omega)] <;> rfl
      have c1 : (its.toArray.isEmpty || k == 1) = false := by
        rw [hi, Bool.false_or]
        exact beq_eq_false_iff_ne.mpr e2
      have c2 : (decide (k ≤ 0) || its.toArray.isEmpty) = true := by
        rw [decide_eq_true (by omega)]; rfl
      refine wpAny_binaryOp_repeat_ref (T := "tuple") (U := "int") (by decide) ⟨_, ho, rfl⟩ (fun s' => typeIs_int s' k t) noFill_tuple_mul F.fills_int_mul F.slot_int_rmul repeat_tuple F.slot_int_index.lookup
        (call_meets F.slot_int_rmul (typeIs_int s k t) F.entry_int_rmul (F.args_int_rmul_2 _ _) (int_rmul_tuple k t l its.toArray n dd sl)
          ⟨ho, rfl, ⟨_, ho, rfl⟩, call_meets F.slot_tuple_mul ⟨_, ho, rfl⟩ F.entry_tuple_mul (F.args_tuple_mul_2 _ _) (tuple_mulNone l its.toArray n dd sl k t c0 c1 c2) ⟨ho, ?_⟩⟩)
      have ek : k.toNat = 0 := by omega
      have q3 := q2 e1 e2
      rw [ek] at q3
      exact ⟨.ref s.heap.objs.size, _, I.laid (t' := s.toks) (o := .tup []) (fun b ob q => Heap.get?_push_of_some _ q) (Nat.le_refl _) ⟨by rw [sizeLine_eq]; decide, [], .nil, IsTup.new _ _⟩, rfl, q3 _ (I.hok.fresh (Nat.le_refl _))⟩

theorem op_addB : OpR X (binaryOp .Add) (fun x y H Q => ∃ (b : Bool) (j : Int), x = .bl b ∧ y = .int j ∧ Q (.int ((if b = true then (1 : Int) else 0) + j)) H) := by
  intro pins s σ H x y v u Q I rx ry h
  obtain ⟨b, j, rfl, rfl, q⟩ := h
  cases rx
  obtain ⟨t', rfl⟩ := ry
  exact IntBool.add_bool_int ⟨.int _, H, I.tok _, ⟨_, rfl⟩, q⟩
theorem op_subB : OpR X (binaryOp .Sub) (fun x y H Q => ∃ (b : Bool) (j : Int), x = .bl b ∧ y = .int j ∧ Q (.int ((if b = true then (1 : Int) else 0) - j)) H) := by
  intro pins s σ H x y v u Q I rx ry h
  obtain ⟨b, j, rfl, rfl, q⟩ := h
  cases rx
  obtain ⟨t', rfl⟩ := ry
  exact IntBool.sub_bool_int ⟨.int _, H, I.tok _, ⟨_, rfl⟩, q⟩
theorem repS_fold (a : Array Nat) : ∀ (m : Nat) (acc : Array Nat), (List.replicate m a).foldl (· ++ ·) acc = acc ++ (List.replicate m a.toList).flatten.toArray
  | 0, acc => by simp
  | m + 1, acc => by
    rw [List.replicate_succ, List.foldl_cons, repS_fold a m, List.replicate_succ, List.flatten_cons]
    apply Array.ext'
    simp
theorem op_mulS : OpR X (binaryOp .Mult) (fun x y H Q => ∃ z k, x = .str z ∧ y = .int k ∧ -1000 ≤ k ∧ k ≤ 1000 ∧ z.length ≤ 1000 ∧ Q (.str (repS z k.toNat)) H) := by
  intro pins s σ H x y v u Q I rx ry h
  obtain ⟨z, k, rfl, rfl, h1, h2, h3, q⟩ := h
  obtain ⟨t, rfl⟩ := rx
  obtain ⟨t', rfl⟩ := ry
  refine P.mul_str (by rw [decide_eq_false (by omega), decide_eq_false (by omega)] <;> rfl) (fun hn _ hg => ?_) (fun hn _ => ?_) ?_
  · have : (z.length : Int) ≤ (2 ^ 63 - 1) / k := (Int.le_ediv_iff_mul_le (by omega)).mpr (by
      have a1 : (z.length : Int) * k ≤ 1000 * k := Int.mul_le_mul_of_nonneg_right (by omega) (by omega)
      omega)
    omega
  · have a1 : z.length * k.toNat ≤ 1000 * 1000 := Nat.mul_le_mul h3 (by omega)
    unfold Builtin.Str.tooLong
    rw [sizeLine_eq]
    exact decide_eq_false (by omega)
  · have hl : (repS z k.toNat).length ≤ sizeLine := by
      have a1 : k.toNat * z.length ≤ 1000 * 1000 := Nat.mul_le_mul (by omega) h3
      show (repS z k.toNat).cps.size ≤ _
      unfold repS
      rw [List.size_toArray, PyProof.Rows.lm_len_rep_flat, sizeLine_eq]
      have : z.cps.toList.length = z.length := Array.length_toList
      rw [this]
      omega
    split
    · rename_i hn
      have e : repS z k.toNat = Str.empty := by rw [show k.toNat = 0 by omega]; rfl
      rw [e] at q
      exact ⟨by decide, .str Str.empty, H, I.tok _, ⟨_, rfl⟩, q⟩
    · rename_i hn
      split
      · rename_i hb
        have e : repS z k.toNat = z := by
          rcases Bool.or_eq_true_iff.mp hb with e | e
          · rw [show k.toNat = 1 by have := eq_of_beq e; omega]
            unfold repS
            rw [List.replicate_one, List.flatten_singleton]
          · have e := eq_of_beq e
            have e0 : z.cps = #[] := Array.eq_empty_of_size_eq_zero e
            unfold repS
            rw [e0]
            have : (List.replicate k.toNat (#[] : Array Nat).toList).flatten = [] := by
              induction k.toNat with
              | zero => rfl
              | succ n ih => rw [List.replicate_succ, List.flatten_cons, ih]; rfl
            rw [this]
            cases z; simp_all
        rw [e] at q
        exact ⟨.str z, H, I, ⟨_, rfl⟩, q⟩
      · have e : (⟨(List.replicate k.toNat z.cps).foldl (· ++ ·) #[]⟩ : Str) = repS z k.toNat := by
          rw [repS_fold]
          unfold repS
          congr 1
          simp
        rw [e]
        exact ⟨hl, .str (repS z k.toNat), H, I.tok _, ⟨_, rfl⟩, q⟩
theorem s_bin (o : Bop) : OpR X (binaryOp (popOf o)) (lift2 X.K (binR o)) := by
  intro pins s σ H x y v u Q I rx ry ⟨F, dx, dy, P, sF, r1, r2, m, k⟩
  have fin : ∀ d v, Rep X.K F v d → P d → Q v H := fun d v r p => k d F v H (Grow.refl sF) r p
  cases o with
  | add =>
    unfold binR at m
    split at m
    all_goals first | (rename_i hh; cases hh; done) | skip
    · cases r1; cases r2; exact op_add pins s σ H _ _ v u Q I rx ry ⟨_, _, rfl, rfl, fin _ _ (.int _) m⟩
    · cases r1; cases r2; exact op_add_str pins s σ H _ _ v u Q I rx ry ⟨_, _, rfl, rfl, m.1, fin _ _ (.str _) m.2⟩
    · exact op_catA pins s σ H _ _ v u Q I rx ry (catT_sound sF r1 r2 m.1 m.2 k)
    · obtain ⟨a, vs, rfl, ha, ra⟩ := r1.lst_inv
      obtain ⟨b, ws, rfl, hb, rb⟩ := r2.lst_inv
      refine op_cat pins s σ H _ _ v u Q I rx ry ⟨a, b, vs, ws, rfl, rfl, sF _ _ ha, sF _ _ hb, by rw [ra.length, rb.length]; exact m.1, fun p hp => ?_⟩
      have g := Grow.new (o := HO.lst (vs ++ ws)) sF hp
      exact k _ _ _ _ g (.lst upd_same ((ra.append rb).mono g.ff)) m.2
    · cases r1; cases r2; exact op_addB pins s σ H _ _ v u Q I rx ry ⟨_, _, rfl, rfl, fin _ _ (.int _) m⟩
    · exact m.elim
  | sub =>
    unfold binR at m
    split at m
    all_goals first | (rename_i hh; cases hh; done) | skip
    · cases r1; cases r2; exact op_sub pins s σ H _ _ v u Q I rx ry ⟨_, _, rfl, rfl, fin _ _ (.int _) m⟩
    · cases r1; cases r2; exact op_subB pins s σ H _ _ v u Q I rx ry ⟨_, _, rfl, rfl, fin _ _ (.int _) m⟩
    · exact m.elim
  | mul =>
    unfold binR at m
    split at m
    all_goals first | (rename_i hh; cases hh; done) | skip
    · cases r1; cases r2; exact op_mul pins s σ H _ _ v u Q I rx ry ⟨_, _, rfl, rfl, m.1, fin _ _ (.int _) m.2⟩
    · rename_i xs0 k0 _
      obtain ⟨a, vs, rfl, ha, ra⟩ := r1.tup_inv
      cases r2
      obtain ⟨m1, m2, m3, m4⟩ := m
      refine op_repAny pins s σ H _ _ v u Q I rx ry ⟨a, _, vs, rfl, rfl, sqT_same sF ha, m1, m2, by rw [ra.length]; exact m3, fun e => ?_, fun e1 e2 p hp => ?_⟩
      · refine k _ F _ H (Grow.refl sF) (.tup ha ra) ?_
        rcases e with e | e
        · subst e
          cases ra
          have z : ∀ n : Nat, (List.replicate n ([] : List D)).flatten = [] := fun n => by induction n with
            | zero => rfl
            | succ n ih => rw [List.replicate_succ, List.flatten_cons, ih]; rfl
          rw [z] at m4; exact m4
        · rw [e] at m4
          have z : ∀ l : List D, (List.replicate (Int.toNat 1) l).flatten = l := fun l => List.append_nil l
          rw [z] at m4; exact m4
      · have g := Grow.new (o := HO.tup (List.replicate (Int.toNat k0) vs).flatten) sF hp
        exact k _ _ _ _ g (.tup (SqT.of upd_same) ((ra.flatten _).mono g.ff)) m4
    · rename_i xs0 k0 _
      obtain ⟨a, vs, rfl, ha, ra⟩ := r1.lst_inv
      cases r2
      obtain ⟨m1, m2, m3, m4⟩ := m
      refine op_rep pins s σ H _ _ v u Q I rx ry ⟨a, _, vs, rfl, rfl, sF _ _ ha, m1, m2, by rw [ra.length]; exact m3, fun p hp => ?_⟩
      have g := Grow.new (o := HO.lst (List.replicate (Int.toNat k0) vs).flatten) sF hp
      exact k _ _ _ _ g (.lst upd_same ((ra.flatten _).mono g.ff)) m4
    · cases r1; cases r2
      obtain ⟨m1, m2, m3, m4⟩ := m
      exact op_mulS pins s σ H _ _ v u Q I rx ry ⟨_, _, rfl, rfl, m1, m2, m3, fin _ _ (.str _) m4⟩
    · exact m.elim
  | fdiv =>
    unfold binR at m
    split at m
    all_goals first | (rename_i hh; cases hh; done) | skip
    · cases r1; cases r2; exact op_fdiv pins s σ H _ _ v u Q I rx ry ⟨_, _, rfl, rfl, m.1, fin _ _ (.int _) m.2⟩
    · exact m.elim
  | mod =>
    unfold binR at m
    split at m
    all_goals first | (rename_i hh; cases hh; done) | skip
    · cases r1; cases r2; exact op_mod pins s σ H _ _ v u Q I rx ry ⟨_, _, rfl, rfl, m.1, fin _ _ (.int _) m.2⟩
    · exact m.elim
  | pow =>
    unfold binR at m
    split at m
    all_goals first | (rename_i hh; cases hh; done) | skip
    · cases r1; cases r2; exact op_pow pins s σ H _ _ v u Q I rx ry ⟨_, _, rfl, rfl, m.1, fin _ _ (.int _) m.2⟩
    · exact m.elim
  | shl =>
    unfold binR at m
    split at m
    all_goals first | (rename_i hh; cases hh; done) | skip
    · cases r1; cases r2; exact op_shl pins s σ H _ _ v u Q I rx ry ⟨_, _, rfl, rfl, m.1, fin _ _ (.int _) m.2⟩
    · exact m.elim
end
end M61

set_option Elab.async false
set_option linter.all false
set_option autoImplicit false
set_option maxRecDepth 100000
/-! M3b: comparisons, truth, items, slices, built-ins. -/
namespace M61
open PySem PySem.Spec PyProof.Rows L2
section
variable {X : Cx}
theorem reps_ints {K : PySem.W.Frag} {F : Hp} : ∀ {vs : List V} {ds : List D} {ns : List Int}, Reps K F vs ds → intsOf ds = some ns → vs = ns.map V.int
  | _, _, ns, .nil, h => by cases h; rfl
  | _, _, ns, .cons (d := d) (ds := ds) r t, h => by
    cases d <;> first | (cases h; done) | skip
    rename_i i
    cases r
    unfold intsOf at h
    cases e : intsOf ds with
    | none => rw [e] at h; cases h
    | some ms =>
      rw [e] at h
      cases h
      rw [reps_ints t e]; rfl
def copOf : Cop → CmpOp
  | .eq => .Eq | .ne => .NotEq | .lt => .Lt | .le => .LtE | .gt => .Gt | .ge => .GtE | .is => .Is | .isn => .IsNot | .inn => .In | .nin => .NotIn
theorem atI_getD {xs : List V} {ds : List D} {K : PySem.W.Frag} {F : Hp} (r : Reps K F xs ds) {i : Int} {d : D} (h : atI ds i = some d) : ∃ v, atI xs i = some v ∧ Rep K F v d := by
  unfold atI at h ⊢
  rw [r.length]
  cases e : ixN ds.length i with
  | none => rw [e] at h; cases h
  | some j =>
    rw [e] at h
    obtain ⟨v, hv, rv⟩ := r.getD (i := j) h
    exact ⟨v, hv, rv⟩
theorem flatV_of {K : PySem.W.Frag} {F : Hp} {v : V} {d : D} (r : Rep K F v d) (h : d.flat = true) : flatV v = true := by
  cases r <;> first | rfl | cases h
theorem eqV_of {K : PySem.W.Frag} {F : Hp} {v u : V} {d e : D} (r : Rep K F v d) (h : d.flat = true) (q : Rep K F u e) (h2 : e.flat = true) : eqV v u = d.eqv e := by
  cases r <;> cases q <;> first | (cases h; done) | (cases h2; done) | rfl
theorem flatAll_of {K : PySem.W.Frag} {F : Hp} : ∀ {vs : List V} {ds : List D}, Reps K F vs ds → ds.all D.flat = true → vs.all flatV = true
  | _, _, .nil, _ => rfl
  | _, _, .cons r t, h => by
    rw [List.all_cons, Bool.and_eq_true] at h ⊢
    exact ⟨flatV_of r h.1, flatAll_of t h.2⟩
theorem anyEq_of {K : PySem.W.Frag} {F : Hp} {u : V} {e : D} (q : Rep K F u e) (h2 : e.flat = true) : ∀ {vs : List V} {ds : List D}, Reps K F vs ds → ds.all D.flat = true → inV u vs = ds.any fun z => z.eqv e
  | _, _, .nil, _ => rfl
  | _, _, .cons r t, h => by
    rw [List.all_cons, Bool.and_eq_true] at h
    have ih := anyEq_of q h2 t h.2
    unfold inV at ih ⊢
    rw [List.any_cons, List.any_cons, ih, eqV_of r h.1 q h2]
theorem pys_any (d : D) : ∀ ds : List D, ((D.pys ds).any fun z => PyData.eqv z d.py) = ds.any fun z => z.eqv d
  | [] => rfl
  | x :: xs => by
    show (PyData.eqv x.py d.py || (D.pys xs).any fun z => PyData.eqv z d.py) = _
    rw [pys_any d xs]; rfl

theorem s_cmp (hr : Room 0 X.A) (o : Cop) : OpR X (compareOp (copOf o)) (lift2 X.K fun d e P => cmpR o d e fun b => P (.bl b)) := by
  intro pins s σ H x y v u Q I rx ry ⟨F, dx, dy, P, sF, r1, r2, m, k⟩
  have fin : ∀ b, P (.bl b) → Q (.bl b) H := fun b p => k (.bl b) F _ H (Grow.refl sF) (.bl b) p
  have hu : X.A.units + 64 < cLine := hr.units
  have hu2 : X.A.units + 65 < cLine := by have := hr.un; omega
  have r1' := r1.mono sF
  have r2' := r2.mono sF
  cases o with
  | eq =>
    obtain ⟨m1, m2, m3⟩ := m
    exact op_eqD hu pins s σ H _ _ v u Q I rx ry ⟨_, _, rep_dp r1' m1.1, rep_dp r2' m2.1, m1.2, m2.2, fin _ m3⟩
  | ne =>
    obtain ⟨m1, m2, m3⟩ := m
    exact op_neD hu pins s σ H _ _ v u Q I rx ry ⟨_, _, rep_dp r1' m1.1, rep_dp r2' m2.1, m1.2, m2.2, fin _ m3⟩
  | lt =>
    unfold cmpR at m
    split at m
    all_goals first | (rename_i hh; cases hh; done) | skip
    · cases r1; cases r2; exact op_lt pins s σ H _ _ v u Q I rx ry ⟨_, _, rfl, rfl, fin _ m⟩
    · obtain ⟨ns, ms, h1, h2, p⟩ := m
      obtain ⟨a, vs, rfl, ha, ra⟩ := r1'.tup_inv
      obtain ⟨b, ws, rfl, hb, rb⟩ := r2'.tup_inv
      have e1 := reps_ints ra h1
      have e2 := reps_ints rb h2
      subst e1 e2
      exact op_ltT (by omega) pins s σ H _ _ v u Q I rx ry ⟨_, _, _, _, rfl, rfl, ha, hb, fin _ p⟩
    · exact m.elim
  | le =>
    unfold cmpR at m
    split at m
    all_goals first | (rename_i hh; cases hh; done) | skip
    · cases r1; cases r2; exact op_le pins s σ H _ _ v u Q I rx ry ⟨_, _, rfl, rfl, fin _ m⟩
    · exact m.elim
  | gt =>
    unfold cmpR at m
    split at m
    all_goals first | (rename_i hh; cases hh; done) | skip
    · cases r1; cases r2; exact op_gt pins s σ H _ _ v u Q I rx ry ⟨_, _, rfl, rfl, fin _ m⟩
    · exact m.elim
  | ge =>
    unfold cmpR at m
    split at m
    all_goals first | (rename_i hh; cases hh; done) | skip
    · cases r1; cases r2; exact op_ge pins s σ H _ _ v u Q I rx ry ⟨_, _, rfl, rfl, fin _ m⟩
    · exact m.elim
  | is =>
    unfold cmpR at m
    split at m
    all_goals first | (rename_i hh; cases hh; done) | skip
    · cases r2
      refine op_isN pins s σ H _ _ v u Q I rx ry ⟨rfl, ?_⟩
      have e : ∀ {d : D}, Rep X.K F x d → decide (x = V.non) = d.isNon := fun r => by cases r <;> simp [D.isNon]
      rw [e r1]
      exact fin _ m
    · cases r1; cases r2; exact op_is_bl pins s σ H _ _ v u Q I rx ry ⟨_, _, rfl, rfl, fin _ m⟩
    · exact m.elim
  | isn =>
    unfold cmpR at m
    split at m
    all_goals first | (rename_i hh; cases hh; done) | skip
    · cases r2
      refine op_notN pins s σ H _ _ v u Q I rx ry ⟨rfl, ?_⟩
      have e : ∀ {d : D}, Rep X.K F x d → decide (x = V.non) = d.isNon := fun r => by cases r <;> simp [D.isNon]
      rw [e r1]
      exact fin _ m
    · cases r1; cases r2; exact op_isnot_bl pins s σ H _ _ v u Q I rx ry ⟨_, _, rfl, rfl, fin _ m⟩
    · exact m.elim
  | inn =>
    unfold cmpR at m
    split at m
    all_goals first | (rename_i hh; cases hh; done) | skip
    · obtain ⟨a, xs, rfl, ha, ra⟩ := r2.tup_inv
      refine op_in_seq pins s σ H _ _ v u Q I rx ry ⟨a, xs, rfl, .inr (sqT_same sF ha), flatV_of r1 m.1, flatAll_of ra m.2.1, ?_⟩
      simp only [Bool.false_eq_true, if_false]
      rw [anyEq_of r1 m.1 ra m.2.1]
      exact fin _ m.2.2
    · obtain ⟨a, xs, rfl, ha, ra⟩ := r2.lst_inv
      refine op_inD hu2 pins s σ H _ _ v u Q I rx ry ⟨_, _, rep_dp r1' m.1.1, rep_dp r2' m.2.1.1, m.1.2, m.2.1.2, ?_⟩
      rw [pys_any]
      exact fin _ m.2.2
    · cases r1; cases r2
      obtain ⟨c, rfl, m⟩ := m
      exact op_in_sign pins s σ H _ _ v u Q I rx ry ⟨c, _, rfl, rfl, fin _ m⟩
    · exact m.elim
  | nin =>
    unfold cmpR at m
    split at m
    all_goals first | (rename_i hh; cases hh; done) | skip
    · obtain ⟨a, xs, rfl, ha, ra⟩ := r2.tup_inv
      refine op_notIn_seq pins s σ H _ _ v u Q I rx ry ⟨a, xs, rfl, .inr (sqT_same sF ha), flatV_of r1 m.1, flatAll_of ra m.2.1, ?_⟩
      simp only [if_true]
      rw [anyEq_of r1 m.1 ra m.2.1]
      exact fin _ m.2.2
    · obtain ⟨a, xs, rfl, ha, ra⟩ := r2.lst_inv
      refine op_notInD hu2 pins s σ H _ _ v u Q I rx ry ⟨_, _, rep_dp r1' m.1.1, rep_dp r2' m.2.1.1, m.1.2, m.2.1.2, ?_⟩
      rw [pys_any]
      exact fin _ m.2.2
    · cases r1; cases r2
      obtain ⟨c, rfl, m⟩ := m
      exact op_notIn_sign pins s σ H _ _ v u Q I rx ry ⟨c, _, rfl, rfl, fin _ m⟩
    · exact m.elim

theorem reps_empty {K : PySem.W.Frag} {F : Hp} : ∀ {vs : List V} {ds : List D}, Reps K F vs ds → vs.isEmpty = ds.isEmpty
  | _, _, .nil => rfl
  | _, _, .cons _ _ => rfl
/-- truth -/
theorem tru_of {F H : Hp} {x : V} {d : D} {P : Bool → Prop} (sF : Same F H) (r : Rep X.K F x d) (m : truD d P) : ∃ k, TruV X.K x H k ∧ P k := by
  unfold truD at m
  split at m
  · cases r; exact ⟨_, rfl, m⟩
  · cases r; exact ⟨_, rfl, m⟩
  · cases r; exact ⟨_, rfl, m⟩
  · cases r; exact ⟨_, ⟨m.1, rfl⟩, m.2⟩
  · obtain ⟨a, xs, rfl, ha, ra⟩ := r.tup_inv
    refine ⟨_, .inr (.inl ⟨xs, sqT_same sF ha, rfl⟩), ?_⟩
    rw [reps_empty ra]; exact m
  · obtain ⟨a, xs, rfl, ha, ra⟩ := r.lst_inv
    refine ⟨_, .inl ⟨xs, .of (sF _ _ ha), rfl⟩, ?_⟩
    rw [reps_empty ra]; exact m
  · exact m.elim

/-- items -/
def liftI (K : PySem.W.Frag) : R2 := fun x y H Q => ∃ (F : Hp) (dx dy : D) (C : CM) (P : D → Prop), Cells K F H C ∧ Rep K F x dx ∧ Rep K F y dy ∧ itemR C dx dy P ∧ ∀ d v, Rep K F v d → P d → Q v H
theorem ix_or {X : Cx} : IxR X (liftI X.K) := by
  intro value slice pins s σ H x y v u Q I rx ry ⟨F, dx, dy, C, P, ce, r1, r2, m, k⟩ hs
  have sF := ce.fh
  unfold itemR at m
  split at m
  · cases r2
    obtain ⟨a, xs, rfl, ha, ra⟩ := r1.tup_inv
    obtain ⟨d, hd, p⟩ := m
    obtain ⟨w, hw, rw'⟩ := atI_getD ra hd
    exact ix_tup value slice pins s σ H _ _ v u Q I rx ry ⟨a, xs, _, w, rfl, rfl, sqT_same sF ha, hw, k d w rw' p⟩ hs
  · cases r2
    obtain ⟨a, xs, rfl, ha, ra⟩ := r1.lst_inv
    obtain ⟨d, hd, p⟩ := m
    obtain ⟨w, hw, rw'⟩ := atI_getD ra hd
    exact ix_list value slice pins s σ H _ _ v u Q I rx ry ⟨a, xs, _, w, rfl, rfl, .of (sF _ _ ha), hw, k d w rw' p⟩ hs
  · cases r1; cases r2
    obtain ⟨m1, c, hc, p⟩ := m
    exact ix_str value slice pins s σ H _ _ v u Q I rx ry ⟨_, _, c, rfl, rfl, m1, hc, k _ _ (.str _) p⟩ hs
  · cases r2
    obtain ⟨a, xs, rfl, ha, ra⟩ := r1.scr_inv
    obtain ⟨d, hd, p⟩ := m
    obtain ⟨w, hw, rw'⟩ := atI_getD ra hd
    exact ix_list value slice pins s σ H _ _ v u Q I rx ry ⟨a, xs, _, w, rfl, rfl, sqL_same sF ha, hw, k d w rw' p⟩ hs
  · rename_i a
    cases r1
    obtain ⟨d, hd, p⟩ := m
    unfold cellAt at hd
    split at hd
    · rename_i xs i hc
      cases r2
      obtain ⟨vs, hv, rv⟩ := (ce.cel _ _ hc).1
      obtain ⟨w, hw, rw'⟩ := atI_getD rv hd
      exact ix_list value slice pins s σ H _ _ v u Q I rx ry ⟨_, vs, _, w, rfl, rfl, .of hv, hw, k d w rw' p⟩ hs
    · cases hd
  · exact m.elim

/-- slices -/
theorem cut_of {K : PySem.W.Frag} {F : Hp} {xs : List V} {ds : List D} (r : Reps K F xs ds) (lo hi : Option Int) : Reps K F (cutV xs lo hi) (cutD ds lo hi) := by
  unfold cutV cutD
  rw [r.length]
  exact (r.drop _).take _
def liftSl (K : PySem.W.Frag) : V → Option Int → Option Int → Hp → VK → Prop := fun x lo hi H Q => ∃ (F : Hp) (C : CM) (dx : D) (P : D → Prop), Cells K F H C ∧ Rep K F x dx ∧ sliceR C dx lo hi P ∧ ∀ d F' v H', Grow F H F' H' → Rep K F' v d → P d → Q v H'
theorem s_sl : SlR X (liftSl X.K) := by
  intro pins s σ H x v vl vu lo hi sl Q I rx hs pl pu ⟨F, C, dx, P, ce, r1, m, k⟩
  have sF := ce.fh
  unfold sliceR at m
  split at m
  · obtain ⟨a, xs, rfl, ha, ra⟩ := r1.tup_inv
    refine sl_tupA pins s σ H _ v vl vu lo hi sl Q I rx hs pl pu ⟨a, xs, rfl, sqT_same sF ha, fun e => ?_, fun e p hp => ?_⟩
    · refine k _ F _ H (Grow.refl sF) (.tup ha ra) ?_
      have z : cutV xs lo hi = xs := by unfold cutV; rw [e.1, e.2]; simp
      have z2 := cut_of ra lo hi
      rw [z] at z2
      have z3 : ∀ {ds es : List D}, ds.length = xs.length → es = cutD ds lo hi → es = ds := fun h1 h2 => by
        rw [h2]; unfold cutD; rw [h1, e.1, e.2]; simp [← h1]
      rw [← z3 ra.length.symm rfl]; exact m
    · have g := Grow.new (o := HO.tup (cutV xs lo hi)) sF hp
      exact k _ _ _ _ g (.tup (SqT.of upd_same) ((cut_of ra lo hi).mono g.ff)) m
  · obtain ⟨a, xs, rfl, ha, ra⟩ := r1.lst_inv
    refine sl_list pins s σ H _ v vl vu lo hi sl Q I rx hs pl pu ⟨a, xs, rfl, .of (sF _ _ ha), fun p hp => ?_⟩
    have g := Grow.new (o := HO.lst (cutV xs lo hi)) sF hp
    exact k _ _ _ _ g (.lst upd_same ((cut_of ra lo hi).mono g.ff)) m
  · obtain ⟨a, xs, rfl, ha, ra⟩ := r1.scr_inv
    refine sl_list pins s σ H _ v vl vu lo hi sl Q I rx hs pl pu ⟨a, xs, rfl, sqL_same sF ha, fun p hp => ?_⟩
    have g := Grow.new (o := HO.lst (cutV xs lo hi)) sF hp
    exact k _ _ _ _ g (.lst upd_same ((cut_of ra lo hi).mono g.ff)) m
  · obtain ⟨ys, hc, m⟩ := m
    cases r1
    obtain ⟨xs, ha, ra⟩ := (ce.cel _ _ hc).1
    refine sl_list pins s σ H _ v vl vu lo hi sl Q I rx hs pl pu ⟨_, xs, rfl, .of ha, fun p hp => ?_⟩
    have g := Grow.new (o := HO.lst (cutV xs lo hi)) sF hp
    exact k _ _ _ _ g (.lst upd_same ((cut_of ra lo hi).mono g.ff)) m
  · exact m.elim
end
end M61

set_option Elab.async false
set_option linter.all false
set_option autoImplicit false
set_option maxRecDepth 100000
/-! M3c: built-ins by values. -/
namespace M61
open PySem PySem.Spec PyProof.Rows L2
def liftB (K : PySem.W.Frag) (r : CM → List D → (D → Prop) → Prop) : List V → Hp → VK → Prop := fun xs H Q => ∃ (F : Hp) (ds : List D) (C : CM) (P : D → Prop), Cells K F H C ∧ Reps K F xs ds ∧ r C ds P ∧
  ∀ d F' v H', Grow F H F' H' → Rep K F' v d → P d → Q v H'
theorem reps_bools {K : PySem.W.Frag} {F : Hp} : ∀ {vs : List V} {ds : List D} {ns : List Bool}, Reps K F vs ds → boolsOf ds = some ns → vs = ns.map V.bl
  | _, _, ns, .nil, h => by cases h; rfl
  | _, _, ns, .cons (d := d) (ds := ds) r t, h => by
    cases d <;> first | (cases h; done) | skip
    rename_i i
    cases r
    unfold boolsOf at h
    cases e : boolsOf ds with
    | none => rw [e] at h; cases h
    | some ms =>
      rw [e] at h
      cases h
      rw [reps_bools t e]; rfl
theorem rep_ints {K : PySem.W.Frag} {F : Hp} : ∀ ns : List Int, Reps K F (ns.map V.int) (ns.map D.int)
  | [] => .nil
  | n :: ns => .cons (.int n) (rep_ints ns)
theorem alike_ints (ns : List Int) : PySem.W.AlikeAll (ns.map PyData.int) := by
  refine ⟨fun x hx y hy => ?_, fun x hx => ?_⟩
  · obtain ⟨i, _, rfl⟩ := List.mem_map.mp hx
    obtain ⟨j, _, rfl⟩ := List.mem_map.mp hy
    rfl
  · obtain ⟨i, _, rfl⟩ := List.mem_map.mp hx
    exact fun e => nomatch e
theorem depth_ints : ∀ ns : List Int, PyData.depthAll (ns.map PyData.int) = 0
  | [] => rfl
  | n :: ns => by
    show max (PyData.depth (.int n)) (PyData.depthAll (ns.map PyData.int)) = 0
    rw [depth_ints ns]; rfl

section
variable {X : Cx}
/-- a list or tuple of ints: as the heap has it -/
theorem seq_ints {pins : List (Addr × Obj)} {σ : L2.St} {H : Hp} {s : Shared} {F : Hp} {C : CM} {v : V} {d : D} {xs : List D} {ns : List Int} (I : L2.Inv X pins σ H s) (ce : Cells X.K F H C) (r : Rep X.K F v d) (h1 : seqD C d = some xs) (h2 : intsOf xs = some ns) :
    ∃ a, v = .ref a ∧ ∃ its : List Value, IntsAre its ns ∧ (s.heap.IsList a its.toArray ∨ s.heap.IsTuple a its.toArray) := by
  have sF := ce.fh
  unfold seqD at h1
  split at h1
  · cases h1
    obtain ⟨a, vs, rfl, ha, ra⟩ := r.tup_inv
    obtain ⟨its, rv, ht, _⟩ := I.tuple (sqT_same sF ha)
    rw [reps_ints ra h2] at rv
    exact ⟨a, rfl, its, rv.ints, .inr ht⟩
  · cases h1
    obtain ⟨a, vs, rfl, ha, ra⟩ := r.lst_inv
    obtain ⟨its, rv, ht, _⟩ := I.list (.of (sF _ _ ha))
    rw [reps_ints ra h2] at rv
    exact ⟨a, rfl, its, rv.ints, .inl ht.isList⟩
  · cases r
    unfold cellL at h1
    split at h1
    · rename_i hc
      cases h1
      obtain ⟨vs, ha, ra⟩ := (ce.cel _ _ hc).1
      obtain ⟨its, rv, ht, _⟩ := I.list (.of ha)
      rw [reps_ints ra h2] at rv
      exact ⟨_, rfl, its, rv.ints, .inl ht.isList⟩
    · cases h1
  · cases h1

theorem c_len : CallR X (.builtin "len") (liftB X.K fun C ds P => bltR C .len ds P) := by
  intro pins s σ H xs us Q I r ⟨F, ds, C, P, ce, rs, m, k⟩
  have sF := ce.fh
  have fin : ∀ n : Nat, P (.int n) → Q (.int n) H := fun n p => k _ F _ H (Grow.refl sF) (.int _) p
  unfold bltR at m
  dsimp only at m
  split at m
  all_goals first | (rename_i hh; cases hh; done) | skip
  · cases rs with
    | cons r1 rr =>
      cases rr
      cases r1
      obtain ⟨ys, hc, p⟩ := m
      obtain ⟨vs, hv, rv⟩ := (ce.cel _ _ hc).1
      rw [← rv.length] at p
      exact call_len_seq pins s σ H _ us Q I r ⟨_, vs, rfl, .inl (.of hv), fin _ p⟩
  · cases rs with
    | cons r1 rr =>
      cases rr
      cases r1
      exact call_len pins s σ H _ us Q I r ⟨_, _, rfl, ⟨m.1, rfl⟩, fin _ m.2⟩
  · cases rs with
    | cons r1 rr =>
      cases rr
      obtain ⟨n, hn, p⟩ := m
      unfold lenD at hn
      split at hn
      · cases hn
        obtain ⟨a, vs, rfl, ha, ra⟩ := r1.tup_inv
        rw [← ra.length] at p
        exact call_len_seq pins s σ H _ us Q I r ⟨_, vs, rfl, .inr (sqT_same sF ha), fin _ p⟩
      · cases hn
        obtain ⟨a, vs, rfl, ha, ra⟩ := r1.lst_inv
        rw [← ra.length] at p
        exact call_len_seq pins s σ H _ us Q I r ⟨_, vs, rfl, .inl (.of (sF _ _ ha)), fin _ p⟩
      · cases hn
        obtain ⟨a, vs, rfl, ha, ra⟩ := r1.scr_inv
        rw [← ra.length] at p
        exact call_len_seq pins s σ H _ us Q I r ⟨_, vs, rfl, .inl (sqL_same sF ha), fin _ p⟩
      · cases hn
  · exact m.elim
theorem c_tuple : CallR X (.type "tuple") (liftB X.K fun C ds P => bltR C .tuple ds P) := by
  intro pins s σ H xs us Q I r ⟨F, ds, C, P, ce, rs, m, k⟩
  have sF := ce.fh
  unfold bltR at m
  dsimp only at m
  split at m
  all_goals first | (rename_i hh; cases hh; done) | skip
  · cases rs with
    | cons r1 rr =>
      cases rr
      obtain ⟨ys, hn, p⟩ := m
      unfold seqD at hn
      split at hn
      · cases hn
        obtain ⟨a, vs, rfl, ha, ra⟩ := r1.tup_inv
        exact call_tuple_of pins s σ H _ us Q I r ⟨_, vs, rfl, .inr ⟨sqT_same sF ha, k _ F _ H (Grow.refl sF) (.tup ha ra) p⟩⟩
      · cases hn
        obtain ⟨a, vs, rfl, ha, ra⟩ := r1.lst_inv
        refine call_tuple_of pins s σ H _ us Q I r ⟨_, vs, rfl, .inl ⟨.of (sF _ _ ha), fun q hq => ?_⟩⟩
        have g := Grow.new (o := HO.tup vs) sF hq
        exact k _ _ _ _ g (.tup (SqT.of upd_same) (ra.mono g.ff)) p
      · cases r1
        unfold cellL at hn
        split at hn
        · rename_i hc
          cases hn
          obtain ⟨vs, ha, ra⟩ := (ce.cel _ _ hc).1
          refine call_tuple_of pins s σ H _ us Q I r ⟨_, vs, rfl, .inl ⟨.of ha, fun q hq => ?_⟩⟩
          have g := Grow.new (o := HO.tup vs) sF hq
          exact k _ _ _ _ g (.tup (SqT.of upd_same) (ra.mono g.ff)) p
        · cases hn
      · cases hn
  · exact m.elim
theorem c_sum (hc : X.calm = true) : CallR X (.builtin "sum") (liftB X.K fun C ds P => bltR C .sum ds P) := by
  intro pins s σ H xs us Q I r ⟨F, ds, C, P, ce, rs, m, k⟩
  have sF := ce.fh
  have fin : ∀ n : Int, P (.int n) → Q (.int n) H := fun n p => k _ F _ H (Grow.refl sF) (.int _) p
  unfold bltR at m
  dsimp only at m
  split at m
  all_goals first | (rename_i hh; cases hh; done) | skip
  · cases rs with
    | cons r1 rr =>
      cases rr
      obtain ⟨ys, ns, h1, h2, p⟩ := m
      obtain ⟨a, rfl, its, hi, hl⟩ := seq_ints I ce r1 h1 h2
      rw [Vals.ref1 r]
      rcases hl with hl | hl
      · exact sum_raw (I.ok.hd hc) hl hi fun h' tk t' hk => ⟨.int _, H, I.kept hk, ⟨_, rfl⟩, fin _ p⟩
      · obtain ⟨zs, e⟩ := hi.allInts.items
        have hn : numsOf (intItems zs).toList = ns := by rw [← e]; exact hi.numsOf
        rw [nums_intItems] at hn
        rw [e] at hl
        refine PySem.W.ktm_sumG (I.ok.hd hc) hl fun h' tk t' hk => ⟨.int ns.sum, H, I.kept hk, ?_, fin _ p⟩
        rw [preSum_eq, List.take_of_length_le (by simp), hn]
        exact ⟨_, rfl⟩
  · exact m.elim
theorem c_max (hc : X.calm = true) (hr : Room 0 X.A) : CallR X (.builtin "max") (liftB X.K fun C ds P => bltR C .max ds P) := by
  intro pins s σ H xs us Q I r ⟨F, ds, C, P, ce, rs, m, k⟩
  have sF := ce.fh
  have fin : ∀ n : Int, P (.int n) → Q (.int n) H := fun n p => k _ F _ H (Grow.refl sF) (.int _) p
  have hu : X.A.units + 1 < cLine := by have := hr.un; omega
  unfold bltR at m
  dsimp only at m
  split at m
  all_goals first | (rename_i hh; cases hh; done) | skip
  · cases rs with
    | cons r1 rr =>
      cases rr
      obtain ⟨ys, ns, h1, h2, h3, p⟩ := m
      obtain ⟨a, rfl, its, hi, hl⟩ := seq_ints I ce r1 h1 h2
      rw [Vals.ref1 r]
      cases ns with
      | nil => exact absurd rfl h3
      | cons n ns =>
        have hR := hi.reads s.heap
        rw [List.map_cons] at hR
        have hA : PySem.W.AlikeAll (PyData.int n :: ns.map PyData.int) := alike_ints (n :: ns)
        have hD : X.A.units + 1 + PyData.depthAll (PyData.int n :: ns.map PyData.int) < cLine := by
          have := depth_ints (n :: ns)
          rw [List.map_cons] at this
          rw [this]; exact hu
        rcases hl with hl | hl
        · refine PySem.W.max_list_data (I.ok.hd hc) hl (by simpa using hR) hA hD fun i v h' tk bs hv rd hk => ?_
          rw [PySem.W.maxD_ints] at rd
          obtain ⟨t, rfl, _⟩ := reads_int_inv rd
          exact ⟨.int _, H, I.kept hk, ⟨_, rfl⟩, fin _ p⟩
        · refine PySem.W.max_tuple_data (I.ok.hd hc) hl (by simpa using hR) hA hD fun i v h' tk bs hv rd hk => ?_
          rw [PySem.W.maxD_ints] at rd
          obtain ⟨t, rfl, _⟩ := reads_int_inv rd
          exact ⟨.int _, H, I.kept hk, ⟨_, rfl⟩, fin _ p⟩
  · exact m.elim
theorem c_min (hc : X.calm = true) (hr : Room 0 X.A) : CallR X (.builtin "min") (liftB X.K fun C ds P => bltR C .min ds P) := by
  intro pins s σ H xs us Q I r ⟨F, ds, C, P, ce, rs, m, k⟩
  have sF := ce.fh
  have fin : ∀ n : Int, P (.int n) → Q (.int n) H := fun n p => k _ F _ H (Grow.refl sF) (.int _) p
  have hu : X.A.units + 1 < cLine := by have := hr.un; omega
  unfold bltR at m
  dsimp only at m
  split at m
  all_goals first | (rename_i hh; cases hh; done) | skip
  · cases rs with
    | cons r1 rr =>
      cases rr
      obtain ⟨ys, ns, h1, h2, h3, p⟩ := m
      obtain ⟨a, rfl, its, hi, hl⟩ := seq_ints I ce r1 h1 h2
      rw [Vals.ref1 r]
      cases ns with
      | nil => exact absurd rfl h3
      | cons n ns =>
        have hR := hi.reads s.heap
        rw [List.map_cons] at hR
        have hA : PySem.W.AlikeAll (PyData.int n :: ns.map PyData.int) := alike_ints (n :: ns)
        have hD : X.A.units + 1 + PyData.depthAll (PyData.int n :: ns.map PyData.int) < cLine := by
          have := depth_ints (n :: ns)
          rw [List.map_cons] at this
          rw [this]; exact hu
        rcases hl with hl | hl
        · refine PySem.W.min_list_data (I.ok.hd hc) hl (by simpa using hR) hA hD fun i v h' tk bs hv rd hk => ?_
          rw [PySem.W.minD_ints] at rd
          obtain ⟨t, rfl, _⟩ := reads_int_inv rd
          exact ⟨.int _, H, I.kept hk, ⟨_, rfl⟩, fin _ p⟩
        · refine PySem.W.min_tuple_data (I.ok.hd hc) hl (by simpa using hR) hA hD fun i v h' tk bs hv rd hk => ?_
          rw [PySem.W.minD_ints] at rd
          obtain ⟨t, rfl, _⟩ := reads_int_inv rd
          exact ⟨.int _, H, I.kept hk, ⟨_, rfl⟩, fin _ p⟩
  · exact m.elim
theorem c_min2 (hc : X.calm = true) : CallR X (.builtin "min") (liftB X.K fun C ds P => bltR C .min2 ds P) := by
  intro pins s σ H xs us Q I r ⟨F, ds, C, P, ce, rs, m, k⟩
  have sF := ce.fh
  unfold bltR at m
  dsimp only at m
  split at m
  all_goals first | (rename_i hh; cases hh; done) | skip
  · cases rs with
    | cons r1 rr =>
      cases rr with
      | cons r2 rr =>
        cases rr; cases r1; cases r2
        exact call_min2 hc pins s σ H _ us Q I r ⟨_, _, rfl, k _ F _ H (Grow.refl sF) (.int _) m⟩
  · exact m.elim
theorem c_max2 (hc : X.calm = true) : CallR X (.builtin "max") (liftB X.K fun C ds P => bltR C .max2 ds P) := by
  intro pins s σ H xs us Q I r ⟨F, ds, C, P, ce, rs, m, k⟩
  have sF := ce.fh
  unfold bltR at m
  dsimp only at m
  split at m
  all_goals first | (rename_i hh; cases hh; done) | skip
  · cases rs with
    | cons r1 rr =>
      cases rr with
      | cons r2 rr =>
        cases rr; cases r1; cases r2
        exact call_max2 hc pins s σ H _ us Q I r ⟨_, _, rfl, k _ F _ H (Grow.refl sF) (.int _) m⟩
  · exact m.elim
theorem c_abs : CallR X (.builtin "abs") (liftB X.K fun C ds P => bltR C .abs ds P) := by
  intro pins s σ H xs us Q I r ⟨F, ds, C, P, ce, rs, m, k⟩
  have sF := ce.fh
  unfold bltR at m
  dsimp only at m
  split at m
  all_goals first | (rename_i hh; cases hh; done) | skip
  · cases rs with
    | cons r1 rr =>
      cases rr; cases r1
      exact call_abs pins s σ H _ us Q I r ⟨_, rfl, k _ F _ H (Grow.refl sF) (.int _) m⟩
  · exact m.elim
theorem c_int : CallR X (.type "int") (liftB X.K fun C ds P => bltR C .int ds P) := by
  intro pins s σ H xs us Q I r ⟨F, ds, C, P, ce, rs, m, k⟩
  have sF := ce.fh
  unfold bltR at m
  dsimp only at m
  split at m
  all_goals first | (rename_i hh; cases hh; done) | skip
  · cases rs with
    | cons r1 rr =>
      cases rr; cases r1
      exact call_int1 pins s σ H _ us Q I r (.inl ⟨_, rfl, k _ F _ H (Grow.refl sF) (.int _) m⟩)
  · cases rs with
    | cons r1 rr =>
      cases rr; cases r1
      exact call_int1 pins s σ H _ us Q I r (.inr ⟨_, rfl, k _ F _ H (Grow.refl sF) (.int _) m⟩)
  · exact m.elim
theorem c_all (hc : X.calm = true) : CallR X (.builtin "all") (liftB X.K fun C ds P => bltR C .all ds P) := by
  intro pins s σ H xs us Q I r ⟨F, ds, C, P, ce, rs, m, k⟩
  have sF := ce.fh
  unfold bltR at m
  dsimp only at m
  split at m
  all_goals first | (rename_i hh; cases hh; done) | skip
  · cases rs with
    | cons r1 rr =>
      cases rr
      obtain ⟨bs, h2, p⟩ := m
      obtain ⟨a, vs, rfl, ha, ra⟩ := r1.lst_inv
      rw [reps_bools ra h2] at ha
      exact cr_all hc pins s σ H _ us Q I r ⟨a, bs, rfl, .of (sF _ _ ha), k _ F _ H (Grow.refl sF) (.bl _) p⟩
  · exact m.elim
theorem c_any (hc : X.calm = true) : CallR X (.builtin "any") (liftB X.K fun C ds P => bltR C .any ds P) := by
  intro pins s σ H xs us Q I r ⟨F, ds, C, P, ce, rs, m, k⟩
  have sF := ce.fh
  unfold bltR at m
  dsimp only at m
  split at m
  all_goals first | (rename_i hh; cases hh; done) | skip
  · cases rs with
    | cons r1 rr =>
      cases rr
      obtain ⟨bs, h2, p⟩ := m
      obtain ⟨a, vs, rfl, ha, ra⟩ := r1.lst_inv
      rw [reps_bools ra h2] at ha
      exact cr_any hc pins s σ H _ us Q I r ⟨a, bs, rfl, .of (sF _ _ ha), k _ F _ H (Grow.refl sF) (.bl _) p⟩
  · exact m.elim

def tyName : Ty → String
  | .int => "int" | .bool => "bool" | .tuple => "tuple" | .list => "list" | .str => "str" | .dict => "dict"
/-- isinstance(x, T) -/
def liftIs (K : PySem.W.Frag) (t : Ty) : List V → Hp → VK → Prop := fun xs H Q => ∃ (F : Hp) (v : V) (d : D) (b : Bool), xs = [v, .ty (tyName t)] ∧ Same F H ∧ Rep K F v d ∧ isTy t d = some b ∧ Q (.bl b) H
theorem tyx_of {F H : Hp} {v : V} {d : D} (sF : Same F H) (r : Rep X.K F v d) {t : Ty} {b : Bool} (h : isTy t d = some b) : ∃ n, TyX X.K H v (.type n) ∧ kitB n (tyName t) = some b := by
  cases r with
  | non => refine ⟨"NoneType", .base .non, ?_⟩; cases t <;> (cases h; first | (show kitB _ _ = some true; decide +kernel) | (show kitB _ _ = some false; decide +kernel))
  | bl b => refine ⟨"bool", .base (.bl _), ?_⟩; cases t <;> (cases h; first | (show kitB _ _ = some true; decide +kernel) | (show kitB _ _ = some false; decide +kernel))
  | int b => refine ⟨"int", .base (.int _), ?_⟩; cases t <;> (cases h; first | (show kitB _ _ = some true; decide +kernel) | (show kitB _ _ = some false; decide +kernel))
  | str b => refine ⟨"str", .base (.str _), ?_⟩; cases t <;> (cases h; first | (show kitB _ _ = some true; decide +kernel) | (show kitB _ _ = some false; decide +kernel))
  | tup ha ra =>
    refine ⟨"tuple", ?_, ?_⟩
    · rcases sqT_same sF ha with (q | ⟨o, q⟩) | ⟨o, its, n, q, c, _⟩
      · exact .base (.tup q)
      · exact .fTuple q
      · exact .kTuple q c
    · cases t <;> (cases h; first | (show kitB _ _ = some true; decide +kernel) | (show kitB _ _ = some false; decide +kernel))
  | lst ha ra => refine ⟨"list", .base (.lst (sF _ _ ha)), ?_⟩; cases t <;> (cases h; first | (show kitB _ _ = some true; decide +kernel) | (show kitB _ _ = some false; decide +kernel))
  | scr ha ra => cases t <;> cases h
  | ref a => cases t <;> cases h
  | clo _ _ _ _ _ => cases t <;> cases h
  | opn _ _ _ => cases t <;> cases h
  | dic ha hd =>
    rename_i a u
    refine ⟨"dict", ?_, ?_⟩
    · cases u with
      | dT kvs => exact .base (.dT (sF _ _ ha))
      | dK kvs => exact .base (.dK (sF _ _ ha))
      | _ => exact hd.elim
    · cases t <;> (cases h; first | (show kitB _ _ = some true; decide +kernel) | (show kitB _ _ = some false; decide +kernel))
theorem c_isi (t : Ty) : CallR X (.builtin "isinstance") (liftIs X.K t) := by
  intro pins s σ H xs us Q I r ⟨F, v, d, b, e, sF, rv, h, q⟩
  subst e
  obtain ⟨n, ty, kb⟩ := tyx_of sF rv h
  exact call_isi pins s σ H _ us Q I r ⟨_, _, _, _, b, rfl, .ty _, ty, kit_ty kb, q⟩

/-- list(x), sorted(x): a fresh list -/
def liftF (K : PySem.W.Frag) (r : D → (List D → Prop) → Prop) : List V → Hp → VK → Prop := fun xs H Q => ∃ (F : Hp) (v : V) (d : D) (P : List D → Prop), xs = [v] ∧ Same F H ∧ Rep K F v d ∧ r d P ∧
  ∀ ds p vs, H p = none → Reps K F vs ds → P ds → Q (.ref p) (upd H p (.lst vs))
theorem c_list : CallR X (.type "list") (liftF X.K fun d P => match d with | .tup xs => P xs | .lst xs => P xs | _ => False) := by
  intro pins s σ H xs us Q I r ⟨F, v, d, P, e, sF, rv, m, k⟩
  subst e
  dsimp only at m
  split at m
  · obtain ⟨a, vs, rfl, ha, ra⟩ := rv.tup_inv
    exact call_list_of pins s σ H _ us Q I r ⟨a, vs, rfl, .inr (sqT_same sF ha), fun p hp => k _ p vs hp ra m⟩
  · obtain ⟨a, vs, rfl, ha, ra⟩ := rv.lst_inv
    exact call_list_of pins s σ H _ us Q I r ⟨a, vs, rfl, .inl (.of (sF _ _ ha)), fun p hp => k _ p vs hp ra m⟩
  · exact m.elim
theorem insI_perm (x : Int) : ∀ l : List Int, (insI x l).Perm (x :: l)
  | [] => List.Perm.refl _
  | y :: r => by
    unfold insI
    split
    · exact List.Perm.refl _
    · exact ((insI_perm x r).cons y).trans (List.Perm.swap x y r)
theorem sortI_perm : ∀ l : List Int, (sortI l).Perm l
  | [] => List.Perm.refl _
  | x :: r => (insI_perm x _).trans ((sortI_perm r).cons x)
theorem insI_sorted (x : Int) : ∀ l : List Int, l.Pairwise (· ≤ ·) → (insI x l).Pairwise (· ≤ ·)
  | [], _ => List.pairwise_singleton _ _
  | y :: r, h => by
    unfold insI
    rw [List.pairwise_cons] at h
    split
    · rename_i hxy
      refine List.pairwise_cons.mpr ⟨fun z hz => ?_, List.pairwise_cons.mpr h⟩
      rcases List.mem_cons.mp hz with rfl | hz
      · exact hxy
      · exact Int.le_trans hxy (h.1 z hz)
    · rename_i hxy
      refine List.pairwise_cons.mpr ⟨fun z hz => ?_, insI_sorted x r h.2⟩
      rcases List.mem_cons.mp ((insI_perm x r).mem_iff.mp hz) with rfl | hz
      · omega
      · exact h.1 z hz
theorem sortI_sorted : ∀ l : List Int, (sortI l).Pairwise (· ≤ ·)
  | [] => List.Pairwise.nil
  | x :: r => insI_sorted x _ (sortI_sorted r)
theorem sort_uniq : ∀ {a b : List Int}, a.Perm b → a.Pairwise (· ≤ ·) → b.Pairwise (· ≤ ·) → a = b := fun p h1 h2 =>
  List.Perm.eq_of_pairwise (le := fun x y => x ≤ y) (fun x y _ _ h h' => Int.le_antisymm h h') h1 h2 p
theorem c_sorted : CallR X (.builtin "sorted") (liftF X.K fun d P => match d with | .lst xs => ∃ ns, intsOf xs = some ns ∧ P ((sortI ns).map D.int) | _ => False) := by
  intro pins s σ H xs us Q I r ⟨F, v, d, P, e, sF, rv, m, k⟩
  subst e
  dsimp only at m
  split at m
  · obtain ⟨a, vs, rfl, ha, ra⟩ := rv.lst_inv
    obtain ⟨ns, hn, p⟩ := m
    rw [reps_ints ra hn] at ha
    refine cr_sortedI pins s σ H _ us Q I r ⟨a, ns, rfl, .of (sF _ _ ha), fun ns' q hp hs hq => ?_⟩
    have e : ns' = sortI ns := sort_uniq (hp.trans (sortI_perm ns).symm) hs (sortI_sorted ns)
    rw [e]
    exact k _ q _ hq (rep_ints _) p
  · exact m.elim
end
end M61

set_option Elab.async false
set_option linter.all false
set_option autoImplicit false
set_option maxRecDepth 100000
/-! M3d: what is walked. -/
namespace PySem
open AutoSeq1 (wpAny_loadPart')
theorem meets_enumerate_new1 {v : Value} {o : Obj} {H : Heap → Prop} (B : Begins v o H) :
    Meets (Builtin.«enumerate.__new__» ⟨[.type "enumerate", v], []⟩) (fun _ R s => H s.heap ∧
      R (.ok (.ret (.ref (s.heap.push o).objs.size))) { s with heap := (s.heap.push o).push { cls := .type "enumerate", data := .fields #[.none, .bool false, .ref s.heap.objs.size, rawInt 0, .none, .none] } }) :=
  .of_wp fun prog w A R s h => by
    obtain ⟨hp, g, d, tk, os⟩ := s; obtain ⟨h1, h⟩ := h
    have hsub := sub_enumerate
    have q1 : ∀ {A' : Around} {E : Value → Shared → Prop} {Q : Value → Shared → Prop}, Q (.ref hp.objs.size) ⟨hp.push o, g, d, tk, os⟩ → wpAny (model prog w) A' (pyIter v) Q E ⟨hp, g, d, tk, os⟩ :=
      fun q => B.iter prog w _ _ ⟨hp, g, d, tk, os⟩ _ h1 q
    wp_walk using q1
    refine wpAny_stack_any fun st => wpAny_pure ?_
    split
    · rename_i c _ _ _ _ _
      cases (c == Value.type "enumerate")
      · wp_walk using q1
        exact ⟨_, rfl, h⟩
      · wp_walk using q1
        exact ⟨_, rfl, h⟩
    · wp_walk using q1
      exact ⟨_, rfl, h⟩
section
variable {prog : Program} {w : World} {A : Around} {E : Value → Shared → Prop} {s : Shared}
theorem enum_begins1 {v : Value} {o : Obj} {H : Heap → Prop} {Q : Value → Shared → Prop} (B : Begins v o H) (h1 : H s.heap)
    (h : ∀ h', IsEnum h' (s.heap.objs.size + 1) s.heap.objs.size 0 .none → h'.get? s.heap.objs.size = some o → h'.objs.size = s.heap.objs.size + 2 →
      (∀ b o, s.heap.get? b = some o → h'.get? b = some o) → Q (.ref (s.heap.objs.size + 1)) { s with heap := h' }) :
    wpAny (model prog w) A (call (.type "enumerate") [v]) Q E s := by
  refine callType_new F.called_enumerate (by decide) (F.typeCall_enumerate_1 _) (F.newCall_enumerate_1 _) (fun obj => F.args_object_init_2 obj _) F.entry_enumerate_new
    (meets_enumerate_new1 B) ⟨h1, ?_⟩
  have hz : (s.heap.push o).objs.size = s.heap.objs.size + 1 := Heap.size_push ..
  show _ ∧ _
  rw [hz]
  have he : IsEnum ((s.heap.push o).push { cls := .type "enumerate", data := .fields #[.none, .bool false, .ref s.heap.objs.size, rawInt 0, .none, .none] }) (s.heap.objs.size + 1) s.heap.objs.size 0 .none := by
    have := Heap.get?_push_size (s.heap.push o) (o := { cls := .type "enumerate", data := .fields #[.none, .bool false, .ref s.heap.objs.size, rawInt 0, .none, .none] }) rfl
    rw [hz] at this; exact this
  refine ⟨⟨_, he, rfl⟩, h _ he (Heap.get?_push_of_some _ (Heap.get?_push_size _ B.free)) (by rw [Heap.size_push, hz]) fun b o x => Heap.get?_push_of_some _ (Heap.get?_push_of_some _ x)⟩
end
end PySem
namespace M61
open PySem PySem.Spec PyProof.Rows L2
section
/-- the tuple at a, each item in a new pair with its number -/
def IteT (K : PySem.W.Frag) (a : Addr) : It :=
  ⟨fun i H => ∃ (xs : List V) (x : V), SqT K H a xs ∧ xs[i]? = some x, fun i H v H' => ∃ T x, v = .ref T ∧ H T = none ∧ H' = upd H T (.tup [.int (i : Nat), x]) ∧ ∀ xs, SqT K H a xs → xs[i]? = some x, fun i H => ∃ xs : List V, SqT K H a xs ∧ xs.length ≤ i⟩
theorem turn_enumT {P : Program} {w : World} {K : PySem.W.Frag} {elts : List Expr} {kk : Nat} {tpos : Pos} (a e it : Addr) :
    Turn P w K (.Tuple elts kk tpos) (IteT K a) [e, it] e (fun i h => (∃ old, IsEnum h e it ((i : Nat) : Int) old) ∧ h.IsTupleIter it a i ∧ e ≠ it ∧ a ≠ it ∧ a ≠ e) where
  mem := by simp
  obj := fun i h st b hb => by
    obtain ⟨⟨old, he⟩, ⟨o, ho, hc, hd⟩, _⟩ := st
    have e' : b = e ∨ b = it := by simpa using hb
    rcases e' with z | z
    · rw [z]; exact ⟨_, he, fun v q => nomatch q⟩
    · rw [z]; exact ⟨o, ho, fun v q => by rw [hd] at q; cases q⟩
  keep := fun i h h' st k => let ⟨⟨old, he⟩, hi, hne⟩ := st; ⟨⟨old, k e (by simp) _ he⟩, hi.at fun o q => k it (by simp) o q, hne⟩
  item := by
    intro X hP hw hK hc i pins s σ H E I hf st hg
    subst hP hw hK
    obtain ⟨⟨old, he⟩, hit, hne, hai, hae⟩ := st
    obtain ⟨xs, x, hq, hx⟩ := hg
    obtain ⟨its, rv, p, hz⟩ := I.tuple hq
    obtain ⟨u, hu, ru⟩ := rv.get hx
    have hel : e < s.heap.objs.size := Heap.lt_size he
    have hil : it < s.heap.objs.size := by obtain ⟨_, q, _⟩ := hit; exact Heap.lt_size q
    have D := Draws.tuple (prog := X.prog) (w := X.w) (A := X.A.in1) (I.ok.hd hc) it a hai its.toArray
    have hlt : i < its.toArray.size := by
      rw [List.size_toArray]; exact (List.getElem?_eq_some_iff.mp hu).1
    refine wpAny_pyNext_enum_itemD D he ⟨hit, p⟩ hlt hne (by simp; exact ⟨hne, Ne.symm hae⟩) fun u' h' tk hu' ho hst' hT hsz hk => ?_
    obtain ⟨hit', _⟩ := hst'
    have eu : u' = u := by
      have q : its[i]? = some u' := by simpa using hu'
      rw [hu] at q; exact (Option.some.inj q).symm
    subst eu
    refine ⟨_, rfl, wpAny_letOwnedTupleGo_enum (s := { s with heap := h', toks := tk + 1 }) ho fun h'' he' sb => ?_⟩
    have hT2 : h''.get? s.heap.objs.size = some { cls := .type "tuple", data := .seq #[.int i tk, u'] } := (sb.2 _ (Nat.ne_of_gt hel)).trans hT
    have new : ObjOk X.prog X.w (upd H s.heap.objs.size (.tup [.int (i : Nat), x])) h'' s.heap.objs.size (.tup [.int (i : Nat), x]) :=
      ⟨by show 2 ≤ sizeLine; decide, [.int i tk, u'], .cons ⟨_, rfl⟩ (.cons ru .nil), ⟨_, hT2, rfl, _, rfl⟩⟩
    have I1 : Inv X pins σ (upd H s.heap.objs.size (.tup [.int (i : Nat), x])) { s with heap := h'', toks := tk + 1 } :=
      I.turnedNew (ch := [e, it]) (fun b ob hb q => (sb.2 b (fun z => hb (by simp [z]))).trans (hk b ob (fun z => hb (by simp [z])) (fun z => hb (by simp [z])) q)) hf (Nat.le_refl _) new
    refine ⟨.ref s.heap.objs.size, _, I1, rfl, ⟨_, x, rfl, I.hok.fresh (Nat.le_refl _), rfl, fun ys hy => by rw [I.tuple_inj hy hq]; exact hx⟩, ⟨⟨u', ?_⟩, hit'.at fun o q => (sb.2 it (Ne.symm hne)).trans q, hne, hai, hae⟩, fun b hb => ?_⟩
    · have e1 : ((i + 1 : Nat) : Int) = (i : Int) + 1 := by omega
      rw [e1]; exact he'
    · have hb' : b < s.heap.objs.size := by
        have e' : b = e ∨ b = it := by simpa using hb
        rcases e' with z | z
        · rw [z]; exact hel
        · rw [z]; exact hil
      rw [upd_ne (Nat.ne_of_lt hb')]
      exact (hf b hb).1
  done := by
    intro X hP hw hK hc i pins s σ H E I hf st hg
    subst hP hw hK
    obtain ⟨⟨old, he⟩, hit, hne, hai, hae⟩ := st
    obtain ⟨xs, hq, hx⟩ := hg
    obtain ⟨its, rv, p, hz⟩ := I.tuple hq
    obtain ⟨f0, f1, f2, f3, f4, f5⟩ := hf it (by simp)
    have hl := rv.length
    unfold pyNext
    have hT : s.TypeIs (.ref e) "enumerate" := ⟨_, he, rfl⟩
    refine wpAny_bind (wpAny_attempt (wpAny_callSpecial?_slot (name := Str.ofString "__next__") hT F.slot_enumerate_next
      (wpAny_call_entry F.slot_enumerate_next hT F.entry_enumerate_next ?_ (F.args_enumerate_next_1 _))))
    show wpAny _ _ (field (.ref e) 2 >>= _) _ _ _
    refine wpAny_bind (wpAny_field he rfl (x := .ref it) rfl ?_)
    refine wpAny_bind (wpAny_nextOf_tuple_end (I.ok.hd hc) hit p (by simp; omega) fun h' x he' hx' => ?_)
    obtain ⟨o, ho, hcc⟩ := hx'
    refine wpAny_bind (wpAny_isInstance (T := "StopIteration") (b := true) ⟨o, ho, hcc⟩ isSubtype_stop ?_)
    exact wpAny_pure ⟨rfl, I.turned (t' := s.toks) (fun b o hb q => he' b o hb q) f0 f1 f3 f4 f5⟩
  self := fun A i s Q E st h => let ⟨⟨_, he⟩, _⟩ := st; wpAny_pyIter_enum he h
theorem walk_enumT {K : PySem.W.Frag} {a : Addr} {xs : List V} : Walk (IteT K a) xs.length (fun H => SqT K H a xs) (YPair (fun i => some (.int (i : Nat))) (fun i => xs[i]?)) := by
  refine ⟨fun i _ hi q => ⟨xs, xs[i], q, by simp [hi]⟩, fun _ q => ⟨xs, q, Nat.le_refl _⟩, fun i H v H' _ q y => ?_⟩
  obtain ⟨T, x, h1, h2, h3, h4⟩ := y
  exact ⟨T, .int (i : Nat), x, h1, h2, h3, rfl, h4 xs q⟩
variable {X : Cx}
/-- a list or a tuple, walked -/
def iSeq (K : PySem.W.Frag) (tl : TE) : TI := fun σ H R => tl σ H fun x H1 => ∃ a xs, x = .ref a ∧ ((SqL K H1 a xs ∧ R (Itl K a) H1) ∨ (SqT K H1 a xs ∧ R (Itt K a) H1))
theorem pi_seq {tg l : Expr} {tl : TE} (hl : PE X l tl) : PI X tg l (iSeq X.K tl) := by
  refine ⟨fun pins s σ H R I h => ?_⟩
  refine thn (hl.run pins s σ H _ I h) fun v s1 ⟨x, H1, I1, r1, q1⟩ => ?_
  obtain ⟨a, xs, e, q⟩ := q1
  subst e
  cases r1
  rcases q with ⟨hq, q⟩ | ⟨hq, q⟩
  · obtain ⟨its, rv, p, hz⟩ := I1.list hq
    refine wpAny_pyIter_list p.isList ?_
    refine ⟨s1.heap.objs.size, [s1.heap.objs.size], _, _, H1, rfl, I1.kept (t' := s1.toks) fun b o e => Heap.get?_push_of_some _ e, turn_list a _, ⟨_, Heap.get?_push_size _ rfl, rfl, rfl⟩, fun b hb => ?_, q⟩
    have e : b = s1.heap.objs.size := by simpa using hb
    subst e
    exact I1.fpOk (Nat.le_refl _) (I1.hok.fresh (Nat.le_refl _))
  · obtain ⟨its, rv, p, hz⟩ := I1.tuple hq
    refine wpAny_pyIter_tuple (show s1.heap.IsTuple a its.toArray from p) ?_
    refine ⟨s1.heap.objs.size, [s1.heap.objs.size], _, _, H1, rfl, I1.kept (t' := s1.toks) fun b o e => Heap.get?_push_of_some _ e, turn_tuple a _, ⟨_, Heap.get?_push_size _ rfl, rfl, rfl⟩, fun b hb => ?_, q⟩
    have e : b = s1.heap.objs.size := by simpa using hb
    subst e
    exact I1.fpOk (Nat.le_refl _) (I1.hok.fresh (Nat.le_refl _))
def iEnumA (K : PySem.W.Frag) (ta : TA) : TI := fun σ H R => ta σ H fun vs H1 => ∃ a xs, vs = [.ref a] ∧ ((SqL K H1 a xs ∧ R (Ite K a) H1) ∨ (SqT K H1 a xs ∧ R (IteT K a) H1))
theorem pi_enumA {e : Expr} {ta : TA} {p pos tpos : Pos} {elts : List Expr} {kk : Nat} (hg : Gl X "enumerate") (hm : X.mg "enumerate" = none) (ha : PA X [e] ta) (hs : starEach [e] X.env = [(false, eval e X.env)]) :
    PI X (.Tuple elts kk tpos) (.Call (.Name "enumerate" p) [e] [] pos) (iEnumA X.K ta) := by
  refine ⟨fun pins s σ H R I h => ?_⟩
  refine Call_ (ld_blt I hg hm boot_enumerate (PyProof.Rows.callWith_type1 (thn (ha.run pos pins s σ H _ I h) fun us s1 ⟨vs, H1, I1, r1, q1⟩ => ?_) hs rfl))
  obtain ⟨a, xs, ex, q⟩ := q1
  subst ex
  cases r1 with
  | cons r rr =>
    cases rr
    cases r
    have fp : ∀ b, b ∈ [s1.heap.objs.size + 1, s1.heap.objs.size] → s1.heap.objs.size ≤ b := fun b hb => by
      have e' : b = s1.heap.objs.size + 1 ∨ b = s1.heap.objs.size := by simpa using hb
      rcases e' with z | z
      · rw [z]; exact Nat.le_add_right _ _
      · rw [z]; exact Nat.le_refl _
    rcases q with ⟨hq, q⟩ | ⟨hq, q⟩
    · obtain ⟨its, rv, p', hz⟩ := I1.list hq
      refine call_enumerate_list p'.isList fun h' he hit hsz hk => wpAny_pyIter_enum he ?_
      have I2 : Inv X pins σ H1 { s1 with heap := h' } := I1.kept (t' := s1.toks) hk
      exact ⟨s1.heap.objs.size + 1, [s1.heap.objs.size + 1, s1.heap.objs.size], _, _, H1, rfl, I2, turn_enum a (s1.heap.objs.size + 1) s1.heap.objs.size, ⟨⟨.none, he⟩, hit, Nat.succ_ne_self _⟩, fun b hb => I1.fpOk (fp b hb) (I1.hok.fresh (fp b hb)), q⟩
    · obtain ⟨its, rv, p', hz⟩ := I1.tuple hq
      have hal : a < s1.heap.objs.size := by obtain ⟨_, q, _⟩ := p'; exact Heap.lt_size q
      refine enum_begins1 (begins_tuple a its.toArray) p' fun h' he hit hsz hk => wpAny_pyIter_enum he ?_
      have I2 : Inv X pins σ H1 { s1 with heap := h' } := I1.kept (t' := s1.toks) hk
      exact ⟨s1.heap.objs.size + 1, [s1.heap.objs.size + 1, s1.heap.objs.size], _, _, H1, rfl, I2, turn_enumT a (s1.heap.objs.size + 1) s1.heap.objs.size, ⟨⟨.none, he⟩, ⟨_, hit, rfl, rfl⟩, Nat.succ_ne_self _, Nat.ne_of_lt hal, Nat.ne_of_lt (Nat.lt_succ_of_lt hal)⟩, fun b hb => I1.fpOk (fp b hb) (I1.hok.fresh (fp b hb)), q⟩
end
/-- what J gives, turn by turn, is ds -/
def IterOk (K : PySem.W.Frag) (F : Hp) (ds : List D) (J : It) : Prop := ∃ (G : Hp → Prop) (Y : Nat → Hp → V → Hp → Prop), Walk J ds.length G Y ∧ (∀ H, Same F H → G H) ∧
  ∀ i H F2 x H', i < ds.length → Same F F2 → Same F2 H → Y i H x H' → ∃ F3 d, Grow F2 H F3 H' ∧ ds[i]? = some d ∧ Rep K F3 x d
section
variable {K : PySem.W.Frag} {F : Hp}
theorem it_at {xs : List V} {ds : List D} (r : Reps K F xs ds) {i : Nat} {H F2 H' : Hp} {x : V} (s : Same F F2) (s2 : Same F2 H) (y : YAt xs i H x H') : ∃ F3 d, Grow F2 H F3 H' ∧ ds[i]? = some d ∧ Rep K F3 x d := by
  obtain ⟨e, h⟩ := y
  subst e
  obtain ⟨d, hd, rd⟩ := r.get h
  exact ⟨F2, d, Grow.refl s2, hd, rd.mono s⟩
theorem it_list {a : Addr} {xs : List V} {ds : List D} (h : SqL K F a xs) (r : Reps K F xs ds) : IterOk K F ds (Itl K a) :=
  ⟨_, _, by rw [← r.length]; exact walk_list, fun H s => s.seq h, fun i H F2 x H' _ s s2 y => it_at r s s2 y⟩
theorem it_tup {a : Addr} {xs : List V} {ds : List D} (h : SqT K F a xs) (r : Reps K F xs ds) : IterOk K F ds (Itt K a) :=
  ⟨_, _, by rw [← r.length]; exact walk_tup, fun H s => sqT_same s h, fun i H F2 x H' _ s s2 y => it_at r s s2 y⟩
theorem rangeD_len (lo c : Int) (n : Nat) : (rangeD lo c n).length = n := by unfold rangeD; simp
theorem rangeD_get (lo c : Int) (n i : Nat) (h : i < n) : (rangeD lo c n)[i]? = some (.int (lo + (i : Nat) * c)) := by
  unfold rangeD; simp [h]
theorem it_range (lo : Int) (n : Nat) : IterOk K F (rangeD lo 1 n) (Itr lo n) :=
  ⟨_, _, by rw [rangeD_len]; exact walk_range, fun H s => trivial, fun i H F2 x H' hi s s2 y => by
    rw [rangeD_len] at hi
    obtain ⟨e, h⟩ := y
    subst e h
    exact ⟨F2, _, Grow.refl s2, rangeD_get lo 1 n i hi, by rw [Int.mul_one]; exact .int _⟩⟩
theorem it_rangeC (lo c : Int) (n : Nat) : IterOk K F (rangeD lo c n) (Itc lo c n) :=
  ⟨_, _, by rw [rangeD_len]; exact walk_rangeC, fun H s => trivial, fun i H F2 x H' hi s s2 y => by
    rw [rangeD_len] at hi
    obtain ⟨e, h⟩ := y
    subst e h
    exact ⟨F2, _, Grow.refl s2, rangeD_get lo c n i hi, .int _⟩⟩
theorem enumD_len : ∀ (k : Nat) (ds : List D), (enumD k ds).length = ds.length
  | _, [] => rfl
  | k, d :: ds => by unfold enumD; rw [List.length_cons, List.length_cons, enumD_len]
theorem enumD_get : ∀ (k : Nat) (ds : List D) (i : Nat) (d : D), ds[i]? = some d → (enumD k ds)[i]? = some (.tup [.int ((k + i : Nat) : Int), d])
  | _, [], _, _, h => by simp at h
  | k, x :: ds, 0, d, h => by
    simp at h; subst h
    unfold enumD
    simp
  | k, x :: ds, i + 1, d, h => by
    unfold enumD
    rw [List.getElem?_cons_succ] at h ⊢
    rw [enumD_get (k + 1) ds i d h]
    rw [show k + 1 + i = k + (i + 1) by omega]
theorem it_pair {a1 a2 : Nat → Option V} {n : Nat} {ds : List D} (hget : ∀ i x y F2, i < n → a1 i = some x → a2 i = some y → Same F F2 → ∃ d e, Rep K F2 x d ∧ Rep K F2 y e ∧ ds[i]? = some (.tup [d, e])) {i : Nat} {H F2 H' : Hp} {x : V} (hi : i < n) (s : Same F F2) (s2 : Same F2 H)
    (y : YPair a1 a2 i H x H') : ∃ F3 d, Grow F2 H F3 H' ∧ ds[i]? = some d ∧ Rep K F3 x d := by
  obtain ⟨T, u, v, rfl, hT, rfl, h1, h2⟩ := y
  obtain ⟨d, e, r1, r2, hd⟩ := hget i u v F2 hi h1 h2 s
  have g := Grow.new (o := HO.tup [u, v]) s2 hT
  exact ⟨_, _, g, hd, .tup (SqT.of upd_same) (.cons (r1.mono g.ff) (.cons (r2.mono g.ff) .nil))⟩
theorem it_enum {a : Addr} {xs : List V} {ds : List D} (h : SqL K F a xs) (r : Reps K F xs ds) : IterOk K F (enumD 0 ds) (Ite K a) :=
  ⟨_, _, by rw [enumD_len, ← r.length]; exact walk_enum, fun H s => s.seq h, fun i H F2 x H' hi s s2 y => it_pair (n := (enumD 0 ds).length) (fun i u v F2 hi h1 h2 s => by
    cases h1
    obtain ⟨d, hd, rd⟩ := r.get h2
    exact ⟨_, d, .int _, rd.mono s, by rw [enumD_get 0 ds i d hd, Nat.zero_add]⟩) hi s s2 y⟩
theorem it_enumT {a : Addr} {xs : List V} {ds : List D} (h : SqT K F a xs) (r : Reps K F xs ds) : IterOk K F (enumD 0 ds) (IteT K a) :=
  ⟨_, _, by rw [enumD_len, ← r.length]; exact walk_enumT, fun H s => sqT_same s h, fun i H F2 x H' hi s s2 y => it_pair (n := (enumD 0 ds).length) (fun i u v F2 hi h1 h2 s => by
    cases h1
    obtain ⟨d, hd, rd⟩ := r.get h2
    exact ⟨_, d, .int _, rd.mono s, by rw [enumD_get 0 ds i d hd, Nat.zero_add]⟩) hi s s2 y⟩
end
end M61

set_option Elab.async false
set_option linter.all false
set_option autoImplicit false
set_option maxRecDepth 100000
/-! N2: defs' promises where no repr of a list or a tuple is on its way. -/
namespace M61
open PySem PySem.Spec PyProof.Rows L2
/-- as FnOk, with no guard about -/
structure FnG (Pr : Program) (wd : World) (K : PySem.W.Frag) (mg : Str → Option Value) (bs : Heap) (CX : CXT) (k : Nat) (f : Addr) (fd : FuncData) (ps : List Str) (sp : Sp) : Prop where
  len : ∀ vs H Q E, sp vs H Q E → vs.length = ps.length
  run : ∀ (A : Around) (out : List Env) (s : Shared) (H : Hp) (ar : Args) (us : List Value) (vs : List V) (Q : VK) (E : XK), A.guards = some [] → Room k A → Env0 Pr wd K mg bs A out s H → BindsTo s fd ar (ps.zip us) → Vals vs us → sp vs H Q E →
    codeAny (model Pr wd) A (.call (.ref f) ar) (CR CX out Pr wd H s Q E) s
section
variable {X : Cx} {CX : CXT} {k : Nat} {f : Addr} {fd : FuncData} {ps : List Str} {sp : Sp} {dvs : List V} {ds : List Value} {E : XK}
theorem run_fnG {pins : List (Addr × Obj)} {σ : L2.St} {H : Hp} {s : Shared} {Q : VK} {us : List Value} {vs : List V} (F : FnG X.prog X.w X.K X.mg X.base CX k f fd ps sp) (gd : X.A.guards = some []) (hr : Room k X.A) (hb : Binds X.K fd ps ds) (hd : Vals dvs ds) (hx : Passes CX X E)
    (I : Inv X pins σ H s) (r : Vals vs us) (h : sp (vs ++ dvs) H Q E) : wpAny (model X.prog X.w) X.A (call (.ref f) us) (EP X pins σ Q) X.xe s := by
  have both : Vals (vs ++ dvs) (us ++ ds) := r.append hd
  have hl : (us ++ ds).length = ps.length := by rw [← both.length]; exact F.len _ _ _ _ h
  refine wpAny_call (codeAny_mono (F.run X.A X.stack s H ⟨us, []⟩ (us ++ ds) (vs ++ dvs) Q E gd hr I.env0 (hb s us I.kIn hl) both h) fun z s' hq => ?_)
  rcases z with e | fl
  · exact hx pins σ H s e s' I hq
  · cases fl <;> first | exact I.after hq | exact False.elim hq
theorem pe_callG {x : Str} {e : Expr} {es : List Expr} {t : TA} {p pos : Pos} (F : FnG X.prog X.w X.K X.mg X.base CX k f fd ps sp) (gd : X.A.guards = some []) (hr : Room k X.A) (hg : Gl X x) (hm : X.mg x = some (.ref f)) (hk : PySem.W.keepIn X.K (.ref f) = true) (hb : Binds X.K fd ps ds) (hd : Vals dvs ds) (hx : Passes CX X E)
    (ha : PA X (e :: es) t) (hdb : (x == ("__debug__" : Str)) = false) (he : starEach (e :: es) X.env = (false, eval e X.env) :: starEach es X.env) (hpl : (backTo pos (starEach es X.env)).any (·.1) = false) :
    PE X (.Call (.Name x p) (e :: es) [] pos) (tCall sp dvs E t) := by
  constructor
  intro pins s σ H Q I h
  exact wpAny_Call_Name_kw (ld_glob I hg hm (PySem.W.callWith_K (h₀ := X.base) I.ok.mod.kin hk (thn (ha.run pos pins s σ H _ I h) fun us s1 ⟨vs, H1, I1, r, q⟩ => ⟨I1.kIn, run_fnG F gd hr hb hd hx I1 r q⟩) he hpl) hdb)
theorem pe_callG0 {x : Str} {p pos : Pos} (F : FnG X.prog X.w X.K X.mg X.base CX k f fd ps sp) (gd : X.A.guards = some []) (hr : Room k X.A) (hg : Gl X x) (hm : X.mg x = some (.ref f)) (hk : PySem.W.keepIn X.K (.ref f) = true) (hb : Binds X.K fd ps ds) (hd : Vals dvs ds) (hx : Passes CX X E)
    (hdb : (x == ("__debug__" : Str)) = false) : PE X (.Call (.Name x p) [] [] pos) (tCall sp dvs E tNil) := by
  constructor
  intro pins s σ H Q I h
  exact wpAny_Call_Name_kw (ld_glob I hg hm (PySem.W.callWith_K0 I.kIn hk (run_fnG (us := []) F gd hr hb hd hx I .nil h)) hdb)
end
section
variable {Pr : Program} {wd : World} {K : PySem.W.Frag} {mg : Str → Option Value} {bs : Heap}
theorem fn_ofG {CX : CXT} {k : Nat} {f : Addr} {name qual : Str} {params : Arguments} {body : List Stmt} {scope : Scope} {dV kV doc pm cdv ct oc : Value} {an od : Option Addr}
    {osl : Array (Option Value)} {N ps : List Str} {sp : Sp} (lk : K.lookup f = some ⟨oc, od, .func (PySem.W.fnOf name qual params body scope dV kV doc pm an cdv ct), osl⟩) (hcd : PySem.W.codeIn K cdv qual = true) (S : FnScope N ps scope)
    (len : ∀ vs H Q E, sp vs H Q E → vs.length = ps.length)
    (hb : ∀ (A : Around) (out : List Env) (s : Shared) (H : Hp) (vs : List V) (Q : VK) (E : XK), A.guards = some [] → Room k (A.deeper (envOfC qual scope s.heap.objs.size f cdv)) → sp vs H Q E →
      ∃ t, PSs (cxOf CX Pr wd K mg bs N qual scope f cdv A out s H E) body t ∧ t { nx := fun _ H' => Q .non H', rt := Q } (start N vs) H) :
    FnG Pr wd K mg bs CX (k + 1) f (PySem.W.fnOf name qual params body scope dV kV doc pm an cdv ct) ps sp := by
  constructor
  · exact len
  intro A out s H ar us vs Q E gd hr e0 hbi r hsp
  have hl := len _ _ _ _ hsp
  have KX : K.In s.heap := e0.mod.kin.keeps fun b o e => (e0.bs b o e).1
  have lim : s.heap.NoLimit := e0.mod.nolimit.keeps fun b o e => (e0.bs b o e).1
  have kd : ∀ y ∈ ps.zip us, scope.names.lookup y.1 = some .local ∨ (scope.names.lookup y.1 = some .cell ∧ ((cellsFrom (s.heap.objs.size + 1) scope.names []).lookup y.1).isSome = true) := by
    intro y hy
    rcases S.par y.1 (List.of_mem_zip (show (y.1, y.2) ∈ ps.zip us from hy)).1 with q | q
    · exact Or.inl q
    · exact Or.inr ⟨q, PySem.W.cellsFrom_some _ _ _ (Or.inl q)⟩
  refine codeAny_call_function hr.depth (KX _ _ lk) rfl S.co S.gen rfl (PySem.W.codeRec_of KX hcd) (hbi _ _ _ _ (wpAny_newFunctionEnv_cells S.kind kd fun env he s1 x => ?_))
  subst he
  refine ⟨lim.keeps x.toInCall.keep, codeAny_func ?_⟩
  obtain ⟨t, ht, hq⟩ := hb A out s H vs Q E gd (hr.deeper _) hsp
  have I : Inv (cxOf CX Pr wd K mg bs N qual scope f cdv A out s H E) [] (start N vs) H s1 := inv_start S hr.hd e0 hl r x
  have fin : ∀ {σ' : L2.St} {H' : Hp} {v : V} {u : Value} {s' : Shared}, Inv (cxOf CX Pr wd K mg bs N qual scope f cdv A out s H E) [] σ' H' s' → RelV v u → Q v H' → CE out Pr wd H s Q u s' :=
    fun {σ' H' v u s'} J rv q => ⟨v, H', J.os, J.bare, J.base, J.hok, rv, q⟩
  refine wpAny_mono (ht.run [] s1 (start N vs) H _ I hq) (fun fl s' hs => ?_) fun e s' hs => hs
  rcases fl with u | _ | _ | _
  all_goals first
    | (obtain ⟨v, σ', H', J, rv, q⟩ := hs; exact fin J rv q)
    | (obtain ⟨σ', H', J, q⟩ := hs; exact fin (v := V.non) (u := Value.none) J rfl q)
    | (obtain ⟨_, _, _, q⟩ := hs; exact False.elim q)
theorem fun_okG {x qual : Str} {st : Stmt} {f : Addr} {fd : FuncData} {N ps : List Str} {k : Nat} {sp : Sp} (F : Fun K x qual st f fd) (S : FnScope N ps (defScope st)) (len : ∀ vs H Q E, sp vs H Q E → vs.length = ps.length)
    (hb : ∀ (cdv : Value) (A : Around) (out : List Env) (s : Shared) (H : Hp) (vs : List V) (Q : VK) (E : XK), A.guards = some [] → Room k (A.deeper (envOfC qual (defScope st) s.heap.objs.size f cdv)) → sp vs H Q E →
      ∃ t, PSs (cxOf CX0 Pr wd K mg bs N qual (defScope st) f cdv A out s H E).nox (defBody st) t ∧ t { nx := fun _ H' => Q .non H', rt := Q } (start N vs) H) : FnG Pr wd K mg bs CX0 (k + 1) f fd ps sp := by
  obtain ⟨oc, od, kV, doc, pm, an, cdv, ct, osl, rfl, lk, hcd⟩ := F.ex
  refine fn_ofG lk hcd S len fun A out s H vs Q E gd hr hsp => ?_
  obtain ⟨t, h, q⟩ := hb cdv A out s H vs Q E gd hr hsp
  exact ⟨t, h.nox, q⟩
/-- the law's own call -/
theorem law_callG {mb : Str → Option Value} {CX : CXT} {k : Nat} {fa a : Addr} {fd : FuncData} {x : Str} {sp : Sp} {s1 : Shared} {vs : List Value} {ns : List Int}
    (KX : K.In s1.heap) (hns : s1.heap.Ns mainGlobals mg) (hb : s1.heap.Ns builtinsNs mb) (hbb : ∀ x : Str, x ≠ "__name__" → mb x = bootBuiltins x) (lim : s1.heap.NoLimit) (hg : s1.gens = #[])
    (ha : s1.heap.get? a = some { cls := .type "list", data := .seq vs.toArray }) (hi : IntsAre vs ns) (hl : ns.length ≤ sizeLine) (hr : Room k callerA)
    (F : ∀ base : Heap, K.In base → base.Ns mainGlobals mg → FnG Pr wd K mg base CX k fa fd [x] sp) (bind : ∀ (s : Shared) (u : Value), BindsTo s fd ⟨[u], []⟩ [(x, u)])
    (hsp : ∀ H : Hp, Only H → SqL K H a (ns.map V.int) → sp [.ref a] H (fun v _ => v = .bl true) fun _ _ _ => False)
    (hCX : ∀ H e s', CX [] H s1 (fun _ _ _ => False) e s' → False) :
    codeAny (model Pr wd) callerA (.call (.ref fa) ⟨[.ref a], []⟩) (fun r s' => r = .ok (.ret (.bool true)) ∧ OldK s1.heap s'.heap ∧ s'.os = s1.os ∧ AllBare s'.gens) s1 := by
  have rv := vals_ints hi
  have lenV := hi.length
  have core : ∀ H : Hp, Only H → SqL K H a (ns.map V.int) → HOk Pr wd H s1.heap → (∀ b, H b ≠ none → b = a) → (H a ≠ none → K.lookup a = none) →
      codeAny (model Pr wd) callerA (.call (.ref fa) ⟨[.ref a], []⟩) (fun r s' => r = .ok (.ret (.bool true)) ∧ OldK s1.heap s'.heap ∧ s'.os = s1.os ∧ AllBare s'.gens) s1 := by
    intro H hO hS hok onlyA hK
    have at_ : ∀ {b : Addr} {o : Obj}, s1.heap.get? b = some o → H b = none → (hidT s1.heap H).get? b = some o := fun e n => hidT_get e n
    have freeD : ∀ {b : Addr} {o : Obj} {es : Array DictEntry} {ep : Nat}, s1.heap.get? b = some o → o.data = .dict es ep → H b = none := by
      intro b o es ep e d
      by_cases q : H b = none
      · exact q
      · obtain rfl : b = a := onlyA b q
        rw [ha] at e; cases e
        exact nomatch (show Data.seq vs.toArray _ = Data.dict es ep from d)
    have nsK : ∀ {b : Addr} {m : Str → Option Value}, s1.heap.Ns b m → (hidT s1.heap H).Ns b m := by
      rintro b m ⟨o, es, ep, e, d, r⟩
      exact ⟨o, es, ep, at_ e (freeD e d), d, r⟩
    have inK : K.In (hidT s1.heap H) := by
      intro b o e
      refine at_ (KX b o e) ?_
      by_cases q : H b = none
      · exact q
      · obtain rfl : b = a := onlyA b q
        rw [hK q] at e; cases e
    have md : Mod K mg (hidT s1.heap H) := ⟨inK, nsK hns, ⟨mb, nsK hb, hbb⟩, let ⟨mc, z1, z2⟩ := lim; ⟨mc, nsK z1, z2⟩⟩
    have en : Env0 Pr wd K mg (hidT s1.heap H) callerA [] s1 H := ⟨rfl, md, fun b o e => of_hidT e, Nat.le_of_eq (hidT_size _ _), trivial, fun b hb => (nomatch (show b ∈ ([] : List Addr) from hb)), hok, .of_eq hg⟩
    refine codeAny_mono ((F _ inK (nsK hns)).run callerA [] s1 H ⟨[.ref a], []⟩ [.ref a] [.ref a] _ _ rfl hr en (bind s1 (.ref a)) (.cons rfl .nil) (hsp H hO hS)) fun z s' h => ?_
    rcases z with e | fl
    · exact (hCX H e s' h).elim
    · cases fl
      case ret u =>
        obtain ⟨v, H', os, bare, un, hok', r', q⟩ := h
        obtain rfl : v = .bl true := q
        obtain rfl : u = Value.bool true := r'
        refine ⟨rfl, OldK.of_keep ?_, os, bare⟩
        intro b o e
        by_cases q : H b = none
        · exact un.keep b o e q (fun z => nomatch (show b ∈ ([] : List Addr) from z)) (by simp)
        · rcases hO b with z | ⟨ob, xs, z⟩
          · exact absurd z q
          · have z2 := un.frzs b ob _ z
            have e1 := (hok b _ z).1
            have e2 := (hok' b _ z2).1
            rw [e] at e1; cases e1; exact e2
      all_goals exact False.elim h
  by_cases hk : K.lookup a = none
  · refine core (fun b => if b = a then some (.frz { cls := .type "list", data := .seq vs.toArray } (.lst (ns.map V.int))) else none) (fun b => ?_) (.inl (.inr ⟨{ cls := .type "list", data := .seq vs.toArray }, if_pos rfl⟩)) (fun b u z => ?_) (fun b z => ?_) fun _ => hk
    · by_cases q : b = a
      · exact Or.inr ⟨_, _, if_pos q⟩
      · exact Or.inl (if_neg q)
    · by_cases q : b = a
      · obtain z' := (if_pos q).symm.trans z
        cases z'; subst q
        exact ⟨ha, by rw [List.length_map]; exact hl, vs, _, rv, ha⟩
      · exact nomatch (if_neg q).symm.trans z
    · by_cases q : b = a
      · exact q
      · exact absurd (if_neg q) z
  · obtain ⟨o, hk⟩ : ∃ o, K.lookup a = some o := by
      cases e : K.lookup a with
      | none => exact absurd e hk
      | some o => exact ⟨o, rfl⟩
    have e := KX a o hk
    rw [ha] at e; cases e
    exact core (fun _ => none) (fun _ => Or.inl rfl) (Or.inr ⟨_, vs.toArray, _, hk, rfl, rfl, rfl, by rw [List.size_toArray, lenV]; exact hl, by simpa using rv⟩) (fun b u z => (nomatch (show (none : Option HO) = some u from z))) (fun b z => absurd rfl z) fun z => absurd rfl z
end
theorem walk_ofG {l : PySem.W.OpenLaw} {n k : Nat} {q : Program} {loose : List Str} {XP : (Str → Option Value) → Heap → Prop} {YP : World → Heap → Prop} {d : DefRec} {K : Params → PySem.W.Frag} {CX : World → CXT} {sp : World → Sp} {x : Str}
    (hn : l.most = some n) (hn2 : n ≤ sizeLine) (hdf : d.params.defaults = []) (hr : Room k callerA)
    (hY : ∀ (w : World) (h : Heap), YP w h → (K w.params).In h)
    (F : ∀ (w : World) (mg : Str → Option Value) (fa : Addr) (h : Heap), (K w.params).In h → h.Ns mainGlobals mg → mg d.name = some (.ref fa) →
      ∃ fd : FuncData, (∀ (s : Shared) (u : Value), BindsTo s fd ⟨[u], []⟩ [(x, u)]) ∧ ∀ base : Heap, (K w.params).In base → base.Ns mainGlobals mg → FnG l.prog w (K w.params) mg base (CX w) k fa fd [x] (sp w))
    (hsp : ∀ (w : World) (H : Hp) (a : Addr) (ns : List Int), ns.length ≤ n → Only H → SqL (K w.params) H a (ns.map V.int) → sp w [.ref a] H (fun v _ => v = .bl true) fun _ _ _ => False)
    (hCX : ∀ (w : World) (H : Hp) (s : Shared) (e : Value) (s' : Shared), CX w [] H s (fun _ _ _ => False) e s' → False) :
    PySem.W.WalkO q loose XP YP l.row.toRowW d [] (fun f vs => PySem.call f vs) := by
  refine Att.attach_call hn hdf ?_
  intro w s0 s1 mg mb fa o pm cd doc a vs ns G Y ho hd hcd hmg hobj hints hlen hg
  obtain ⟨fd, hb, hF⟩ := F w mg fa _ (hY w _ Y) G.T.g hmg
  exact law_callG (hY w _ Y) G.T.g G.T.b G.T.builtins G.T.nolimit hg hobj hints (Nat.le_trans hlen hn2) hr hF hb (fun H hO hS => hsp w H a ns hlen hO hS) fun H e s' => hCX w H s1 e s'
end M61

set_option Elab.async false
set_option linter.all false
set_option autoImplicit false
set_option maxRecDepth 100000
/-! N3: repr of data. -/
namespace M61
open PySem PySem.Spec PyProof.Rows L2
section
variable {X : Cx} {pins : List (Addr × Obj)} {σ : L2.St} {H F : Hp} {s : Shared}
mutual
theorem reads_of (I : Inv X pins σ H s) (sF : Same F H) : ∀ {v : V} {d : D}, Rep X.K F v d → d.pure = true → ∀ u, RelV v u → ∃ as, Reads s.heap u d.py as
  | _, _, .non, _, u, r => ⟨[], by obtain rfl : u = Value.none := r; exact .none⟩
  | _, _, .bl b, _, u, r => ⟨[], by obtain rfl : u = Value.bool b := r; exact .bool b⟩
  | _, _, .int i, _, u, r => ⟨[], by obtain ⟨t, rfl⟩ := (show ∃ t, u = Value.int i t from r); exact .int i t⟩
  | _, _, .str x, _, u, r => ⟨[], by obtain ⟨t, rfl⟩ := (show ∃ t, u = Value.str x t from r); exact .str x t⟩
  | _, _, .tup (a := a) (xs := xs) h rs, p, u, r => by
    obtain rfl : u = Value.ref a := r
    obtain ⟨its, rv, ⟨o, h1, h2, n, h3⟩, _⟩ := I.tuple (sqT_same sF h)
    obtain ⟨as, q⟩ := reads_all I sF rs p _ rv
    exact ⟨as, .tuple h1 h2 h3 (by simpa using q)⟩
  | _, _, .lst (a := a) (xs := xs) h rs, p, u, r => by
    obtain rfl : u = Value.ref a := r
    obtain ⟨its, rv, pl, _⟩ := I.list (.of (sF _ _ h))
    obtain ⟨o, h1, h2, n, h3⟩ := pl.isList
    obtain ⟨as, q⟩ := reads_all I sF rs p _ rv
    exact ⟨_, .list h1 h2 h3 (by simpa using q)⟩
  | _, _, .scr _ _, p, _, _ => nomatch p
  | _, _, .ref _, p, _, _ => nomatch p
theorem reads_all (I : Inv X pins σ H s) (sF : Same F H) : ∀ {vs : List V} {ds : List D}, Reps X.K F vs ds → D.pures ds = true → ∀ us, Vals vs us → ∃ as, ReadsAll s.heap us (D.pys ds) as
  | _, _, .nil, _, us, r => by cases r; exact ⟨[], .nil⟩
  | _, _, .cons (d := d) (ds := ds) r1 rs, p, us, r => by
    obtain ⟨p1, p2⟩ := Bool.and_eq_true_iff.mp (show (d.pure && D.pures ds) = true from p)
    cases r with
    | cons u1 ur =>
      obtain ⟨as, q1⟩ := reads_of I sF r1 p1 _ u1
      obtain ⟨bs, q2⟩ := reads_all I sF rs p2 _ ur
      exact ⟨_, .cons q1 q2⟩
end
/-- what repr shows -/
structure D.Shw (d : D) : Prop where
  p : d.pure = true
  s : d.py.showable = true
  n : d.py.hasDict = false
  e : d.py.depth ≤ 64
  z : d.py.shown.length ≤ sizeLine
end
section
variable {X : Cx}
theorem nu3 (i j k : Int) : nuMin3 (.int i) (.int j) (.int k) = some (.int (min (min i j) k)) := by
  have e : ∀ x y : Int, nuMin2 (.int x) (.int y) = some (.int (min x y)) := fun x y => by
    show some (if decide (y < x) = true then V.int y else V.int x) = _
    by_cases h : y < x
    · rw [if_pos (decide_eq_true h), Int.min_eq_right (by omega)]
    · rw [if_neg (by simpa using h), Int.min_eq_left (by omega)]
  show (nuMin2 (.int i) (.int j)).bind (fun m => nuMin2 m (.int k)) = _
  rw [e]
  exact e _ _
theorem c_min3 (hc : X.calm = true) : CallR X (.builtin "min") (liftB X.K fun C ds P => bltR C .min3 ds P) := by
  intro pins s σ H xs us Q I r ⟨F, ds, C, P, ce, rs, m, k⟩
  have sF := ce.fh
  unfold bltR at m
  dsimp only at m
  split at m
  all_goals first | (rename_i hh; cases hh; done) | skip
  · rename_i i j l _
    cases rs with
    | cons r1 rr =>
      cases rr with
      | cons r2 rr =>
        cases rr with
        | cons r3 rr =>
          cases rr; cases r1; cases r2; cases r3
          exact call_min3Nu hc pins s σ H _ us Q I r ⟨_, _, _, _, rfl, nu3 i j l, k _ F _ H (Grow.refl sF) (.int _) m⟩
  · exact m.elim
theorem pures_at : ∀ {xs : List D}, D.pures xs = true → ∀ x ∈ xs, x.pure = true
  | [], _, _, h => absurd h (by simp)
  | x :: xs, h, y, hy => by
    obtain ⟨h1, h2⟩ := Bool.and_eq_true_iff.mp (show (D.pure x && D.pures xs) = true from h)
    rcases List.mem_cons.mp hy with rfl | q
    · exact h1
    · exact pures_at h2 y q
theorem seq_data {pins : List (Addr × Obj)} {σ : L2.St} {H : Hp} {s : Shared} {F : Hp} {C : CM} {v : V} {d : D} {xs : List D} (I : L2.Inv X pins σ H s) (ce : Cells X.K F H C) (r : Rep X.K F v d) (h1 : seqD C d = some xs) :
    ∃ a vs, ∃ its : List Value, v = .ref a ∧ Reps X.K F vs xs ∧ Vals vs its ∧ (s.heap.IsList a its.toArray ∨ s.heap.IsTuple a its.toArray) := by
  have sF := ce.fh
  unfold seqD at h1
  split at h1
  · cases h1
    obtain ⟨a, vs, rfl, ha, ra⟩ := r.tup_inv
    obtain ⟨its, rv, ht, _⟩ := I.tuple (sqT_same sF ha)
    exact ⟨a, vs, its, rfl, ra, rv, .inr ht⟩
  · cases h1
    obtain ⟨a, vs, rfl, ha, ra⟩ := r.lst_inv
    obtain ⟨its, rv, ht, _⟩ := I.list (.of (sF _ _ ha))
    exact ⟨a, vs, its, rfl, ra, rv, .inl ht.isList⟩
  · cases r
    unfold cellL at h1
    split at h1
    · rename_i hc
      cases h1
      obtain ⟨vs, ha, ra⟩ := (ce.cel _ _ hc).1
      obtain ⟨its, rv, ht, _⟩ := I.list (.of ha)
      exact ⟨_, vs, its, rfl, ra, rv, .inl ht.isList⟩
    · cases h1
  · cases h1
theorem c_str : CallR X (.type "str") (liftB X.K fun C ds P => bltR C .str ds P) := by
  intro pins s σ H xs us Q I r ⟨F, ds, C, P, ce, rs, m, k⟩
  have sF := ce.fh
  unfold bltR at m
  dsimp only at m
  split at m
  all_goals first | (rename_i hh; cases hh; done) | skip
  · cases rs with
    | cons r1 rr =>
      cases rr; cases r1
      exact call_str_int pins s σ H _ us Q I r ⟨_, rfl, m.1, k _ F _ H (Grow.refl sF) (.str _) m.2⟩
  · exact m.elim
theorem c_mind (hc : X.calm = true) (hr : Room 0 X.A) : CallR X (.builtin "min") (liftB X.K fun C ds P => bltR C .mind ds P) := by
  intro pins s σ H xs us Q I r ⟨F, ds, C, P, ce, rs, m, k⟩
  have sF := ce.fh
  unfold bltR at m
  dsimp only at m
  split at m
  all_goals first | (rename_i hh; cases hh; done) | skip
  · cases rs with
    | cons r1 rr =>
      cases rr
      obtain ⟨x, ys, h1, h2, h3, h4, p⟩ := m
      obtain ⟨a, vs, its, rfl, rv, rw', hl⟩ := seq_data I ce r1 h1
      rw [Vals.ref1 r]
      obtain ⟨as, hR⟩ := reads_all I sF rv h2 its rw'
      have hD : X.A.units + 1 + PyData.depthAll (D.pys (x :: ys)) < cLine := by
        have := hr.un
        omega
      have fin : ∀ (i : Nat) (v : Value) (h' : Heap) (tk : Nat) (bs : List Addr), its.toArray[i]? = some v → Reads h' v (PySem.W.minD x.py (D.pys ys)) bs → (∀ b o, s.heap.get? b = some o → h'.get? b = some o) → EP X pins σ Q v { s with heap := h', toks := tk } := fun i v h' tk bs hv rd hk => by
        have hv2 : its[i]? = some v := by simpa using hv
        obtain ⟨w, hw, rel⟩ : ∃ w, vs[i]? = some w ∧ RelV w v := by
          cases hw : vs[i]? with
          | none =>
            have := rw'.none_of hw
            rw [hv2] at this; cases this
          | some w =>
            obtain ⟨u, hu, rel⟩ := rw'.get hw
            rw [hv2] at hu
            cases hu
            exact ⟨w, rfl, rel⟩
        obtain ⟨d, hd, rd1⟩ := rv.get hw
        have hm : d ∈ x :: ys := List.mem_of_getElem? hd
        have pd : d.pure = true := pures_at h2 d hm
        obtain ⟨cs, rd2⟩ := reads_of I sF rd1 pd v rel
        have e := (reads_det (h := h') (h' := h') (fun b o e _ => e) rd (PySem.W.reads_keeps hk rd2)).1
        exact ⟨w, H, I.kept hk, rel, k _ F _ H (Grow.refl sF) rd1 (p d hm e)⟩
      rcases hl with hl | hl
      · exact PySem.W.min_list_data (I.ok.hd hc) hl (by simpa [D.pys] using hR) (by simpa [D.pys] using h3) (by simpa [D.pys] using hD) fin
      · exact PySem.W.min_tuple_data (I.ok.hd hc) hl (by simpa [D.pys] using hR) (by simpa [D.pys] using h3) (by simpa [D.pys] using hD) fin
  · exact m.elim
section
variable {prog : Program} {w : World} {A : Around} {s : Shared} {E : Value → Shared → Prop}
/-- the least of two alike data: the one that is less, else the first -/
theorem min_two_data {a b : Value} {x y : PyData} {as : List Addr} {Q : Value → Shared → Prop} (hh : A.handled = none) (hr : ReadsAll s.heap [a, b] [x, y] as) (ha : PySem.W.AlikeAll [x, y]) (hu : A.units + 1 + PyData.depthAll [x, y] < cLine)
    (h : ∀ (i : Nat) v h' tk bs, [a, b][i]? = some v → Reads h' v (PySem.W.minD x [y]) bs → (∀ c o, s.heap.get? c = some o → h'.get? c = some o) → Q v { s with heap := h', toks := tk }) :
    wpAny (model prog w) A (call (.builtin "min") [a, b]) Q E s := by
  have hname : (toString "min" ++ toString ".loop" : String) = "min.loop" := by decide
  have hT : (s.heap.push { cls := .type "tuple", data := .seq #[a, b] }).IsTuple s.heap.objs.size #[a, b] := ⟨_, Heap.get?_push_size _ rfl, rfl, 0, rfl⟩
  have hp : ∀ c o, s.heap.get? c = some o → (s.heap.push { cls := .type "tuple", data := .seq #[a, b] }).get? c = some o := fun c o e => Heap.get?_push_of_some _ e
  refine call_function_tree F.kind_min F.plain_min F.entry_min (F.args_min2 _ _) ?_
  show wpAny _ A.in1 (Builtin.Builtins.bindParams "min" ["key", "default"] 0 ⟨[], []⟩ >>= _) _ _ s
  refine wpAny_bind (wpAny_of_eq (show Builtin.Builtins.bindParams "min" ["key", "default"] 0 ⟨[], []⟩ = pure [none, none] from rfl) ?_)
  show wpAny _ A.in1 (newTuple [a, b] >>= _) _ _ s
  refine wpAny_bind (wpAny_newObj_type ?_)
  have hr2 : ReadsAll (s.heap.push { cls := .type "tuple", data := .seq #[a, b] }) [a, b] [x, y] as := ReadsAll.keeps hp hr
  refine wpAny_bind (PySem.W.iter_tupleW (A := A.in1) hh hT fun s₂ e W st hfp hw hk => ?_)
  refine wpAny_bind (wpAny_newObj_type ?_)
  have hSf : s₂.heap.objs.size ∉ [_, s.heap.objs.size] := fun hm => Nat.lt_irrefl _ (hfp _ hm)
  rw [hname]
  refine wpAny_pure ⟨plainId_quiet F.plain_min_loop _, codeAny_min_loop_firstH W _ hw _ (PySem.W.cmpIn_lt (A := A.in1) hr2 ha (by show A.units + 1 + _ < _; exact hu)) s₂.heap.objs.size hSf (fresh_in hk) _ (by show 0 < 2; decide) (fun b o e => Heap.get?_push_of_some _ (hk b o e)) (W.frame 0 s₂ _ s₂.toks st (Nat.le_refl _) fun b _ o e => Heap.get?_push_of_some _ e) (Heap.get?_push_size _ rfl) fun v s' hP m => ?_⟩
  obtain ⟨h', tk, rfl, hk'⟩ := PySem.W.moved_old e rfl (Moved.drop_new (tk := s₂.toks) m (Nat.le_refl _))
  obtain ⟨bs, r, _, _, _⟩ := PySem.W.readsAll_atA hr2 _ v hP
  have e2 := (PySem.W.argBest_fold PySem.W.dataLt PyData.none x [y] 1 (Nat.le_refl _)).2
  have hkk : ∀ c o, s.heap.get? c = some o → h'.get? c = some o := fun c o e => hk' c o (hp c o e)
  exact h (argBest _ 1) v h' tk bs (by simpa using hP) (PySem.W.reads_keeps hk' (by unfold PySem.W.minD; rw [show [y] = [y].take 1 from rfl, ← e2]; exact r)) hkk
end
theorem c_min2d (hc : X.calm = true) (hr : Room 0 X.A) : CallR X (.builtin "min") (liftB X.K fun C ds P => bltR C .min2d ds P) := by
  intro pins s σ H xs us Q I r ⟨F, ds, C, P, ce, rs, m, k⟩
  have sF := ce.fh
  unfold bltR at m
  dsimp only at m
  split at m
  all_goals first | (rename_i hh; cases hh; done) | skip
  · rename_i x y _
    obtain ⟨h2, h3, h4, p⟩ := m
    have hl2 := rs.length
    obtain ⟨as, hR⟩ := reads_all I sF rs h2 us r
    have hlu := r.length
    obtain ⟨u1, u2, rfl⟩ : ∃ u1 u2, us = [u1, u2] := by
      rw [hl2] at hlu
      match us, hlu with
      | [u1, u2], _ => exact ⟨u1, u2, rfl⟩
    have hD : X.A.units + 1 + PyData.depthAll [x.py, y.py] < cLine := by
      have := hr.un
      have : PyData.depthAll [x.py, y.py] ≤ 64 := h4
      omega
    refine min_two_data (I.ok.hd hc) hR h3 hD fun i v h' tk bs hv rd hk => ?_
    obtain ⟨w, hw, rel⟩ : ∃ w, xs[i]? = some w ∧ RelV w v := by
      cases hw : xs[i]? with
      | none =>
        have := r.none_of hw
        rw [hv] at this; cases this
      | some w =>
        obtain ⟨u, hu, rel⟩ := r.get hw
        rw [hv] at hu
        cases hu
        exact ⟨w, rfl, rel⟩
    obtain ⟨d, hd, rd1⟩ := rs.get hw
    have hm : d ∈ [x, y] := List.mem_of_getElem? hd
    have pd : d.pure = true := pures_at h2 d hm
    obtain ⟨cs, rd2⟩ := reads_of I sF rd1 pd v rel
    have e := (reads_det (h := h') (h' := h') (fun b o e _ => e) rd (PySem.W.reads_keeps hk rd2)).1
    exact ⟨w, H, I.kept hk, rel, k _ F _ H (Grow.refl sF) rd1 (p d hm e)⟩
  · exact m.elim
theorem c_maxd (hc : X.calm = true) (hr : Room 0 X.A) : CallR X (.builtin "max") (liftB X.K fun C ds P => bltR C .maxd ds P) := by
  intro pins s σ H xs us Q I r ⟨F, ds, C, P, ce, rs, m, k⟩
  have sF := ce.fh
  unfold bltR at m
  dsimp only at m
  split at m
  all_goals first | (rename_i hh; cases hh; done) | skip
  · cases rs with
    | cons r1 rr =>
      cases rr
      obtain ⟨x, ys, h1, h2, h3, h4, p⟩ := m
      obtain ⟨a, vs, its, rfl, rv, rw', hl⟩ := seq_data I ce r1 h1
      rw [Vals.ref1 r]
      obtain ⟨as, hR⟩ := reads_all I sF rv h2 its rw'
      have hD : X.A.units + 1 + PyData.depthAll (D.pys (x :: ys)) < cLine := by
        have := hr.un
        omega
      have fin : ∀ (i : Nat) (v : Value) (h' : Heap) (tk : Nat) (bs : List Addr), its.toArray[i]? = some v → Reads h' v (PySem.W.maxD x.py (D.pys ys)) bs → (∀ b o, s.heap.get? b = some o → h'.get? b = some o) → EP X pins σ Q v { s with heap := h', toks := tk } := fun i v h' tk bs hv rd hk => by
        have hv2 : its[i]? = some v := by simpa using hv
        obtain ⟨w, hw, rel⟩ : ∃ w, vs[i]? = some w ∧ RelV w v := by
          cases hw : vs[i]? with
          | none =>
            have := rw'.none_of hw
            rw [hv2] at this; cases this
          | some w =>
            obtain ⟨u, hu, rel⟩ := rw'.get hw
            rw [hv2] at hu
            cases hu
            exact ⟨w, rfl, rel⟩
        obtain ⟨d, hd, rd1⟩ := rv.get hw
        have hm : d ∈ x :: ys := List.mem_of_getElem? hd
        have pd : d.pure = true := pures_at h2 d hm
        obtain ⟨cs, rd2⟩ := reads_of I sF rd1 pd v rel
        have e := (reads_det (h := h') (h' := h') (fun b o e _ => e) rd (PySem.W.reads_keeps hk rd2)).1
        exact ⟨w, H, I.kept hk, rel, k _ F _ H (Grow.refl sF) rd1 (p d hm e)⟩
      rcases hl with hl | hl
      · exact PySem.W.max_list_data (I.ok.hd hc) hl (by simpa [D.pys] using hR) (by simpa [D.pys] using h3) (by simpa [D.pys] using hD) fin
      · exact PySem.W.max_tuple_data (I.ok.hd hc) hl (by simpa [D.pys] using hR) (by simpa [D.pys] using h3) (by simpa [D.pys] using hD) fin
  · exact m.elim
theorem c_repr (gd : X.A.guards = some []) (r0 : Room 0 X.A) : CallR X (.builtin "repr") (liftB X.K fun C ds P => bltR C .repr ds P) := by
  intro pins s σ H xs us Q I r ⟨F, ds, C, P, ce, rs, m, k⟩
  have sF := ce.fh
  obtain ⟨d, hds, hp, hs, hn, he, hz, hm⟩ : ∃ d, ds = [d] ∧ d.pure = true ∧ d.py.showable = true ∧ d.py.hasDict = false ∧ d.py.depth ≤ 64 ∧ d.py.shown.length ≤ sizeLine ∧ P (.str d.py.shown) := by
    rcases ds with _ | ⟨d, _ | ⟨e, r⟩⟩
    · exact m.elim
    · obtain ⟨a1, a2, a3, a4, a5, a6⟩ := (show d.pure = true ∧ d.py.showable = true ∧ d.py.hasDict = false ∧ d.py.depth ≤ 64 ∧ d.py.shown.length ≤ sizeLine ∧ P (.str d.py.shown) from m)
      exact ⟨d, rfl, a1, a2, a3, a4, a5, a6⟩
    · exact (show False from m).elim
  subst hds
  cases rs with
  | cons r1 rr =>
    cases rr
    obtain ⟨u, rfl, ru⟩ : ∃ u, us = [u] ∧ RelV _ u := by
      cases r with
      | cons h t => cases t; exact ⟨_, rfl, h⟩
    have un := r0.un
    obtain ⟨as, q⟩ := reads_of I sF r1 hp u ru
    have fin : ∀ (h' : Heap) (t : Tok) (tk : Nat), (∀ b o, s.heap.get? b = some o → h'.get? b = some o) → EP X pins σ Q (.str d.py.shown t) { s with heap := h', toks := tk } := fun h' t tk hk =>
      ⟨.str d.py.shown, H, I.kept hk, ⟨t, rfl⟩, k _ F _ H (Grow.refl sF) (.str _) hm⟩
    cases r1 with
    | non =>
      obtain rfl : u = Value.none := ru
      exact PySem.P.repr_of_none (fin s.heap _ _ fun _ _ e => e)
    | bl b =>
      obtain rfl : u = Value.bool b := ru
      exact PySem.P.repr_of_bool (by have := fin s.heap s.toks (s.toks + 1) fun _ _ e => e; cases b <;> exact this)
    | int i =>
      obtain ⟨t, rfl⟩ := (show ∃ t, u = Value.int i t from ru)
      exact PySem.P.repr_of_int (of_decide_eq_true (show decide (i.natAbs.log2 < 1920) = true from hs)) (fin s.heap _ _ fun _ _ e => e)
    | str x =>
      obtain ⟨t, rfl⟩ := (show ∃ t, u = Value.str x t from ru)
      exact PySem.P.repr_of_str (fin s.heap _ _ fun _ _ e => e) hz
    | tup h rs =>
      obtain rfl : u = Value.ref _ := ru
      exact repr_of_reads' q hs (fun e => by rw [hn] at e; cases e) gd (by omega) (fun _ _ e => e) (fun h' t tk hk => fin h' t tk hk) hz
    | lst h rs =>
      obtain rfl : u = Value.ref _ := ru
      exact repr_of_reads' q hs (fun e => by rw [hn] at e; cases e) gd (by omega) (fun _ _ e => e) (fun h' t tk hk => fin h' t tk hk) hz
    | scr _ _ => exact nomatch hp
    | ref _ => exact nomatch hp
    | dic _ _ => exact nomatch hp
    | clo _ _ _ _ _ => exact nomatch hp
    | opn _ _ _ => exact nomatch hp
end
end M61

set_option Elab.async false
set_option linter.all false
set_option autoImplicit false
set_option maxRecDepth 100000
/-! M4a: how the relation goes on. -/
namespace M61
open PySem PySem.Spec PyProof.Rows L2
section
variable {K : PySem.W.Frag} {B : Base} {F F' H H' : Hp} {σ σ' : L2.St} {ρ ρ' : Rho} {C C' : CM}
theorem set_get {α : Type} {l : List α} {i j : Nat} {x y : α} (h : (l.set i x)[j]? = some y) : (i = j ∧ y = x ∧ i < l.length) ∨ (i ≠ j ∧ l[j]? = some y) := by
  rw [List.getElem?_set] at h
  split at h
  · rename_i q
    split at h
    · rename_i q2
      cases h
      exact .inl ⟨q, rfl, q2⟩
    · cases h
  · rename_i q
    exact .inr ⟨q, h⟩
/-- an own list changes -/
theorem Rel.mutOwn (R : Rel K B F σ H ρ C) {i : Nat} {xs xs' : List D} {a : Addr} {vs' : List V} (h : ρ[i]? = some (some (Dv.own xs))) (hs : σ[i]? = some (some (V.ref a))) (r : Reps K F vs' xs') :
    Rel K B F σ (upd H a (HO.lst vs')) (ρ.set i (some (Dv.own xs'))) C := by
  obtain ⟨a', vs, e, hl, r0, n1, n2, n3⟩ := R.own i xs h
  rw [hs] at e
  cases e
  have ne : ∀ {b : Addr} {o : HO}, F b = some o → b ≠ a := fun q z => by rw [z, n1] at q; cases q
  have neC : ∀ {b : Addr} {c : Cell}, C b = some c → b ≠ a := fun q z => by rw [z, n2] at q; cases q
  have neB : ∀ {b : Addr} {o : HO}, B.H b = some o → b ≠ a := fun q z => by rw [z, n3] at q; cases q
  refine ⟨by rw [List.length_set]; exact R.len, ⟨fun b o q => by rw [upd_ne (ne q)]; exact R.ce.fh b o q, fun b c q => ?_, R.ce.tb.upd fun u hu => by rw [hl] at hu; cases hu; trivial⟩, ⟨R.fr.ff, R.fr.fnew, fun b o q q2 nt => by rw [upd_ne (neB q)]; exact R.fr.frame b o q q2 nt, R.fr.cnew, fun b o q => by rw [upd_ne (neB q)]; exact R.fr.stay b o q⟩,
    fun j d q => ?_, fun j ys q => ?_, fun j k ys zs b n q1 q2 q3 => ?_⟩
  · obtain ⟨q1, q2⟩ := R.ce.cel b c q
    exact ⟨q1.mono (Same.refl _) (fun o z => by rw [upd_ne (neC q)]; exact z), q2⟩
  · rcases set_get q with ⟨_, z, _⟩ | ⟨_, q⟩
    · cases z
    · exact R.dat j d q
  · rcases set_get q with ⟨rfl, z, _⟩ | ⟨nij, q⟩
    · cases z
      exact ⟨a, vs', hs, upd_same, r, n1, n2, n3⟩
    · obtain ⟨b, ws, e1, e2, e3, e4, e5, e6⟩ := R.own j ys q
      have nb : b ≠ a := fun z => by subst z; exact R.dis i j _ _ b nij h q hs e1
      exact ⟨b, ws, e1, by rw [upd_ne nb]; exact e2, e3, e4, e5, e6⟩
  · have g : ∀ {j : Nat} {ys : List D}, (ρ.set i (some (Dv.own xs')))[j]? = some (some (Dv.own ys)) → ∃ ys', ρ[j]? = some (some (Dv.own ys')) := fun {j ys} q => by
      rcases set_get q with ⟨rfl, z, _⟩ | ⟨_, q⟩
      · exact ⟨_, h⟩
      · exact ⟨_, q⟩
    obtain ⟨y1, g1⟩ := g q1
    obtain ⟨y2, g2⟩ := g q2
    exact R.dis j k y1 y2 b n g1 g2 q3
theorem upd_inv {F : Hp} {a b : Addr} {o u : HO} (h : upd F a o b = some u) : (b = a ∧ u = o) ∨ (b ≠ a ∧ F b = some u) := by
  by_cases q : b = a
  · subst q; rw [upd_same] at h; cases h; exact .inl ⟨rfl, rfl⟩
  · rw [upd_ne q] at h; exact .inr ⟨q, h⟩
/-- a list that no slot holds is left as it is from now on -/
theorem Rel.frzNew (R : Rel K B F σ H ρ C) {a : Addr} {vs : List V} (hl : H a = some (HO.lst vs)) (n1 : F a = none) (n2 : C a = none) (n3 : B.H a = none) (no : NotOwn ρ σ a) :
    Rel K B (upd F a (HO.lst vs)) σ H ρ C := by
  have s1 : Same F (upd F a (HO.lst vs)) := same_upd n1
  refine ⟨R.len, ⟨fun b o q => ?_, fun b c q => ?_, R.ce.tb.ext (fun _ _ h => s1 _ _ h) (fun P ps h n => by rw [upd_ne (fun z => by rw [z, hl] at h; cases h)]; exact n) fun _ _ h => h⟩, ⟨R.fr.ff.trans s1, fun b o q => ?_, R.fr.frame, R.fr.cnew, R.fr.stay⟩, fun i d q => ?_, fun i xs q => ?_, R.dis⟩
  · rcases upd_inv q with ⟨rfl, rfl⟩ | ⟨_, q⟩
    · exact hl
    · exact R.ce.fh b o q
  · obtain ⟨q1, q2⟩ := R.ce.cel b c q
    have nb : b ≠ a := fun z => by rw [z, n2] at q; cases q
    exact ⟨q1.mono s1 fun _ z => z, by rw [upd_ne nb]; exact q2⟩
  · rcases upd_inv q with ⟨rfl, rfl⟩ | ⟨_, q⟩
    · exact .inr n3
    · exact R.fr.fnew b o q
  · obtain ⟨v, e, r⟩ := R.dat i d q
    exact ⟨v, e, r.mono s1⟩
  · obtain ⟨b, ws, e1, e2, e3, e4, e5, e6⟩ := R.own i xs q
    have nb : b ≠ a := fun z => by subst z; exact no i xs q e1
    exact ⟨b, ws, e1, e2, e3.mono s1, by rw [upd_ne nb]; exact e4, e5, e6⟩
/-- an own list is left as it is from now on -/
theorem Rel.frzOwn (R : Rel K B F σ H ρ C) {i : Nat} {xs : List D} (h : ρ[i]? = some (some (Dv.own xs))) :
    ∃ a vs, σ[i]? = some (some (V.ref a)) ∧ Same F (upd F a (HO.lst vs)) ∧ Rep K (upd F a (HO.lst vs)) (.ref a) (.lst xs) ∧ Rel K B (upd F a (HO.lst vs)) σ H (ρ.set i (some (Dv.dat (.lst xs)))) C := by
  obtain ⟨a, vs, e, hl, r0, n1, n2, n3⟩ := R.own i xs h
  have hlt : i < ρ.length := (List.getElem?_eq_some_iff.mp h).1
  have s1 : Same F (upd F a (HO.lst vs)) := same_upd n1
  have rep : Rep K (upd F a (HO.lst vs)) (.ref a) (.lst xs) := .lst upd_same (r0.mono s1)
  -- the slot forgotten
  have R1 : Rel K B F σ H (ρ.set i none) C := R.weak (by rw [List.length_set]; exact R.len) fun j x q => by
    rcases set_get q with ⟨_, z, _⟩ | ⟨_, q⟩
    · cases z
    · exact ⟨q, rfl⟩
  have no : NotOwn (ρ.set i none) σ a := fun j ys q e2 => by
    rcases set_get q with ⟨_, z, _⟩ | ⟨nij, q⟩
    · cases z
    · exact R.dis i j _ _ a nij h q e e2
  have R2 := (R1.frzNew hl n1 n2 n3 no).setDat i rep
  have es : σ.set i (some (.ref a)) = σ := by
    apply List.ext_getElem?
    intro j
    rw [List.getElem?_set]
    split
    · rename_i q
      subst q
      rw [if_pos (by rw [← R.len]; exact hlt), e]
    · rfl
  rw [es, List.set_set] at R2
  exact ⟨a, vs, e, s1, rep, R2⟩
/-- a cell changes -/
theorem Rel.mutCell (R : Rel K B F σ H ρ C) {a : Addr} {c c' : Cell} {o : HO} (h : C a = some c) (r : CellRep K F (upd H a o) a c') : Rel K B F σ (upd H a o) ρ (fun b => if b = a then some c' else C b) := by
  obtain ⟨r0, n0⟩ := R.ce.cel a c h
  have neF : ∀ {b : Addr} {u : HO}, F b = some u → b ≠ a := fun q z => by rw [z, n0] at q; cases q
  refine ⟨R.len, ⟨fun b u q => by rw [upd_ne (neF q)]; exact R.ce.fh b u q, fun b x q => ?_, R.ce.tb.upd r0.pl⟩, ⟨R.fr.ff, R.fr.fnew, fun b u q q2 nt => ?_, fun b x q => ?_, fun b u q => ?_⟩, R.dat, fun i xs q => ?_, R.dis⟩
  · by_cases z : b = a
    · subst z
      rw [if_pos rfl] at q
      cases q
      exact ⟨r, n0⟩
    · rw [if_neg z] at q
      obtain ⟨q1, q2⟩ := R.ce.cel b x q
      exact ⟨q1.mono (Same.refl _) (fun u y => by rw [upd_ne z]; exact y), q2⟩
  · have z : b ≠ a := fun z => by
      subst z
      rcases R.fr.cnew b c h with ⟨c0, e⟩ | e
      · rw [q2] at e; cases e
      · rw [q] at e; cases e
    rw [upd_ne z]
    exact R.fr.frame b u q q2 nt
  · by_cases z : b = a
    · subst z; exact R.fr.cnew b c h
    · rw [if_neg z] at q; exact R.fr.cnew b x q
  · by_cases z : b = a
    · subst z; exact ⟨_, upd_same⟩
    · rw [upd_ne z]; exact R.fr.stay b u q
  · obtain ⟨b, ws, e1, e2, e3, e4, e5, e6⟩ := R.own i xs q
    have nb : b ≠ a := fun z => by rw [z, h] at e5; cases e5
    exact ⟨b, ws, e1, by rw [upd_ne nb]; exact e2, e3, e4, by rw [if_neg nb]; exact e5, e6⟩
/-- a list becomes a cell -/
theorem Rel.newCell (R : Rel K B F σ H ρ C) {a : Addr} {vs : List V} {xs : List D} (hl : H a = some (HO.lst vs)) (r : Reps K F vs xs) (n1 : F a = none) (n3 : B.H a = none) (no : NotOwn ρ σ a) :
    Rel K B F σ H ρ (fun b => if b = a then some (.lst xs) else C b) := by
  refine ⟨R.len, ⟨R.ce.fh, fun b x q => ?_, R.ce.tb⟩, ⟨R.fr.ff, R.fr.fnew, R.fr.frame, fun b x q => ?_, R.fr.stay⟩, R.dat, fun i ys q => ?_, R.dis⟩
  · by_cases z : b = a
    · subst z
      rw [if_pos rfl] at q
      cases q
      exact ⟨⟨vs, hl, r⟩, n1⟩
    · rw [if_neg z] at q; exact R.ce.cel b x q
  · by_cases z : b = a
    · subst z; exact .inr n3
    · rw [if_neg z] at q; exact R.fr.cnew b x q
  · obtain ⟨b, ws, e1, e2, e3, e4, e5, e6⟩ := R.own i ys q
    have nb : b ≠ a := fun z => by subst z; exact no i ys q e1
    exact ⟨b, ws, e1, e2, e3, e4, by rw [if_neg nb]; exact e5, e6⟩
/-- anything that nobody holds becomes a cell -/
theorem Rel.newCellO (R : Rel K B F σ H ρ C) {a : Addr} {c : Cell} (r : CellRep K F H a c) (n1 : F a = none) (n3 : B.H a = none) (no : NotOwn ρ σ a) : Rel K B F σ H ρ (setC C a c) := by
  refine ⟨R.len, ⟨R.ce.fh, fun b x q => ?_, R.ce.tb⟩, ⟨R.fr.ff, R.fr.fnew, R.fr.frame, fun b x q => ?_, R.fr.stay⟩, R.dat, fun i ys q => ?_, R.dis⟩
  · unfold setC at q
    by_cases z : b = a
    · subst z
      rw [if_pos rfl] at q
      cases q
      exact ⟨r, n1⟩
    · rw [if_neg z] at q; exact R.ce.cel b x q
  · unfold setC at q
    by_cases z : b = a
    · subst z; exact .inr n3
    · rw [if_neg z] at q; exact R.fr.cnew b x q
  · obtain ⟨b, ws, e1, e2, e3, e4, e5, e6⟩ := R.own i ys q
    have nb : b ≠ a := fun z => by subst z; exact no i ys q e1
    exact ⟨b, ws, e1, e2, e3, e4, by unfold setC; rw [if_neg nb]; exact e5, e6⟩
/-- the address is a slot's own list -/
def OwnAt (ρ : Rho) (σ : L2.St) (a : Addr) : Prop := ∃ (i : Nat) (xs : List D), ρ[i]? = some (some (Dv.own xs)) ∧ σ[i]? = some (some (V.ref a))
open Classical in
/-- from here on: all but what the slots hold alone is to stay -/
noncomputable def reB (F H : Hp) (ρ : Rho) (σ : L2.St) (C : CM) : Base := ⟨fun a => if OwnAt ρ σ a then none else H a, F, C⟩
theorem reB_own {a : Addr} (h : OwnAt ρ σ a) : (reB F H ρ σ C).H a = none := by unfold reB; simp [h]
theorem reB_not {a : Addr} (h : ¬ OwnAt ρ σ a) : (reB F H ρ σ C).H a = H a := by unfold reB; simp [h]
theorem reB_some {a : Addr} {o : HO} (h : (reB F H ρ σ C).H a = some o) : ¬ OwnAt ρ σ a ∧ H a = some o := by
  by_cases q : OwnAt ρ σ a
  · rw [reB_own q] at h; cases h
  · rw [reB_not q] at h; exact ⟨q, h⟩
theorem Rel.rebase (R : Rel K B F σ H ρ C) : Rel K (reB F H ρ σ C) F σ H ρ C := by
  refine ⟨R.len, R.ce, ⟨Same.refl _, fun _ _ h => .inl h, fun a o h _ _ => (reB_some h).2, fun _ c h => .inl ⟨c, h⟩, fun a o h => ⟨o, (reB_some h).2⟩⟩, R.dat, fun i xs h => ?_, R.dis⟩
  obtain ⟨a, vs, e1, e2, e3, e4, e5, _⟩ := R.own i xs h
  exact ⟨a, vs, e1, e2, e3, e4, e5, reB_own ⟨i, xs, h, e1⟩⟩
theorem wipeR_length (ρ : Rho) : ∀ vs : List Nat, (wipeR ρ vs).length = ρ.length
  | [] => rfl
  | v :: vs => by unfold wipeR; rw [List.length_set, wipeR_length ρ vs]
theorem wipeR_some {i : Nat} {x : Dv} : ∀ {vs : List Nat}, (wipeR ρ vs)[i]? = some (some x) → ρ[i]? = some (some x) ∧ i ∉ vs
  | [], h => ⟨h, by simp⟩
  | v :: vs, h => by
    unfold wipeR at h
    rcases set_get h with ⟨_, z, _⟩ | ⟨n, h⟩
    · cases z
    · obtain ⟨h1, h2⟩ := wipeR_some h
      exact ⟨h1, by simp only [List.mem_cons, not_or]; exact ⟨fun e => n e.symm, h2⟩⟩
theorem wipeR_out {i : Nat} : ∀ {vs : List Nat}, i ∉ vs → (wipeR ρ vs)[i]? = ρ[i]?
  | [], _ => rfl
  | v :: vs, h => by
    simp only [List.mem_cons, not_or] at h
    unfold wipeR
    rw [List.getElem?_set_ne (fun e => h.1 e.symm)]
    exact wipeR_out h.2
theorem wipe_outS {i : Nat} : ∀ {vs : List Nat}, i ∉ vs → (wipe σ vs)[i]? = σ[i]?
  | [], _ => rfl
  | v :: vs, h => by
    simp only [List.mem_cons, not_or] at h
    unfold wipe
    rw [List.getElem?_set_ne (fun e => h.1 e.symm)]
    exact wipe_outS h.2
theorem wipe_in {i : Nat} : ∀ {vs : List Nat}, i ∈ vs → (wipe σ vs)[i]? = if i < σ.length then some none else none
  | v :: vs, h => by
    unfold wipe
    by_cases q : v = i
    · subst q
      rw [List.getElem?_set_self']
      by_cases z : v < σ.length
      · rw [if_pos z, List.getElem?_eq_getElem (by rw [wipe_length]; exact z)]; rfl
      · rw [if_neg z, List.getElem?_eq_none (by rw [wipe_length]; omega)]; rfl
    · rw [List.getElem?_set_ne q]
      rcases List.mem_cons.mp h with e | e
      · exact absurd e.symm q
      · exact wipe_in e
theorem wipe_eq {vs : List Nat} (hl : σ'.length = σ.length) (h : ∀ i, i ∉ vs → σ'[i]? = σ[i]?) : wipe σ' vs = wipe σ vs := by
  apply List.ext_getElem?
  intro i
  by_cases q : i ∈ vs
  · rw [wipe_in q, wipe_in q, hl]
  · rw [wipe_outS q, wipe_outS q, h i q]
theorem Rel.wiped (R : Rel K B F σ H ρ C) (vs : List Nat) : Rel K B F (wipe σ vs) H (wipeR ρ vs) C :=
  R.weak (by rw [wipeR_length, wipe_length]; exact R.len) fun i x h => ⟨(wipeR_some h).1, wipe_outS (wipeR_some h).2⟩
/-- back from a block -/
theorem Rel.back {vs : List Nat} {σ2 : L2.St} {ρ2 : Rho} (R : Rel K B F σ H ρ C) (R' : Rel K (reB F H (wipeR ρ vs) (wipe σ vs) C) F' σ2 H' ρ2 C') (h : ∀ i, i ∉ vs → ρ2[i]? = ρ[i]? ∧ σ2[i]? = σ[i]?) : Rel K B F' σ H' ρ C' := by
  have own_of : ∀ {a : Addr}, OwnAt (wipeR ρ vs) (wipe σ vs) a → OwnAt ρ σ a := fun ⟨i, xs, q1, q2⟩ => by
    obtain ⟨q, n⟩ := wipeR_some q1
    exact ⟨i, xs, q, by rw [← wipe_outS n]; exact q2⟩
  have hN : ∀ {a : Addr}, (reB F H (wipeR ρ vs) (wipe σ vs) C).H a = none → B.H a = none := fun {a} q => by
    by_cases z : OwnAt (wipeR ρ vs) (wipe σ vs) a
    · obtain ⟨i, xs, q1, q2⟩ := own_of z
      obtain ⟨b, ws, e1, _, _, _, _, e6⟩ := R.own i xs q1
      rw [q2] at e1; cases e1; exact e6
    · rw [reB_not z] at q; exact R.base_none q
  refine ⟨R.len, R'.ce, ⟨R.fr.ff.trans R'.fr.ff, fun b o q => ?_, fun b o q q2 nt => ?_, fun b c q => ?_, fun b o q => ?_⟩, fun i d q => ?_, fun i xs q => ?_, R.dis⟩
  · rcases R'.fr.fnew b o q with q | q
    · exact R.fr.fnew b o q
    · exact .inr (hN q)
  · have nC : C b = none := by
      cases e : C b with
      | none => rfl
      | some c =>
        rcases R.fr.cnew b c e with ⟨c0, z⟩ | z
        · rw [q2] at z; cases z
        · rw [q] at z; cases z
    refine R'.fr.frame b o ?_ nC nt
    by_cases z : OwnAt (wipeR ρ vs) (wipe σ vs) b
    · obtain ⟨i, xs, q1, q3⟩ := own_of z
      obtain ⟨b', ws, e1, _, _, _, _, e6⟩ := R.own i xs q1
      rw [q3] at e1; cases e1; rw [q] at e6; cases e6
    · rw [reB_not z]; exact R.fr.frame b o q q2 nt
  · rcases R'.fr.cnew b c q with ⟨c0, q⟩ | q
    · exact R.fr.cnew b c0 q
    · exact .inr (hN q)
  · cases e : (reB F H (wipeR ρ vs) (wipe σ vs) C).H b with
    | none => rw [hN e] at q; cases q
    | some u => exact R'.fr.stay b u e
  · obtain ⟨v, e, r⟩ := R.dat i d q
    exact ⟨v, e, r.mono R'.fr.ff⟩
  · obtain ⟨a, ws, e1, e2, e3, e4, e5, e6⟩ := R.own i xs q
    by_cases iv : i ∈ vs
    · have na : ¬ OwnAt (wipeR ρ vs) (wipe σ vs) a := fun ⟨j, ys, q1, q2⟩ => by
        obtain ⟨q3, nj⟩ := wipeR_some q1
        rw [wipe_outS nj] at q2
        exact R.dis i j xs ys a (fun z => nj (z ▸ iv)) q q3 e1 q2
      have hb : (reB F H (wipeR ρ vs) (wipe σ vs) C).H a = some (HO.lst ws) := by rw [reB_not na]; exact e2
      refine ⟨a, ws, e1, R'.fr.frame a _ hb e5 (fun _ z => nomatch z), e3.mono R'.fr.ff, ?_, ?_, e6⟩
      · cases z : F' a with
        | none => rfl
        | some o =>
          rcases R'.fr.fnew a o z with y | y
          · exact nomatch e4.symm.trans y
          · rw [hb] at y; cases y
      · cases z : C' a with
        | none => rfl
        | some o =>
          rcases R'.fr.cnew a o z with ⟨_, y⟩ | y
          · exact nomatch e5.symm.trans y
          · rw [hb] at y; cases y
    · obtain ⟨p1, p2⟩ := h i iv
      obtain ⟨b, us, f1, f2, f3, f4, f5, _⟩ := R'.own i xs (by rw [p1]; exact q)
      rw [p2, e1] at f1
      cases f1
      exact ⟨a, us, e1, f2, f3, f4, f5, e6⟩
/-- what stood and isn't a slot's own stands as it stood -/
theorem Rel.keep {a : Addr} {o : HO} {ρ0 : Rho} {σ0 : L2.St} {F0 H0 : Hp} {C0 : CM} (R' : Rel K (reB F0 H0 ρ0 σ0 C0) F' σ' H' ρ' C') (hl : H0 a = some o) (n1 : F0 a = none) (n2 : C0 a = none) (no : ¬ OwnAt ρ0 σ0 a) (nt : ∀ ps, o ≠ .tbl ps := by intro _ z; cases z) : H' a = some o ∧ F' a = none ∧ C' a = none := by
  have hb : (reB F0 H0 ρ0 σ0 C0).H a = some o := by rw [reB_not no]; exact hl
  refine ⟨R'.fr.frame a _ hb n2 nt, ?_, ?_⟩
  · cases z : F' a with
    | none => rfl
    | some u =>
      rcases R'.fr.fnew a u z with y | y
      · exact nomatch n1.symm.trans y
      · rw [hb] at y; cases y
  · cases z : C' a with
    | none => rfl
    | some u =>
      rcases R'.fr.cnew a u z with ⟨_, y⟩ | y
      · exact nomatch n2.symm.trans y
      · rw [hb] at y; cases y
end
end M61

set_option Elab.async false
set_option linter.all false
set_option autoImplicit false
set_option maxRecDepth 100000
/-! M4b: readings by abstract values; the rules of expressions. -/
namespace M61
open PySem PySem.Spec PyProof.Rows L2
abbrev ME := Rho → CM → (D → Rho → CM → Prop) → Prop
abbrev MT := Rho → CM → (Bool → Rho → CM → Prop) → Prop
abbrev ML := Rho → CM → (List D → Rho → CM → Prop) → Prop
abbrev MO := Rho → CM → (Option Int → Rho → CM → Prop) → Prop
section
variable (K : PySem.W.Frag)
def rd (m : ME) : TE := fun σ H Q => ∃ (B : Base) (F : Hp) (ρ : Rho) (C : CM) (P : D → Rho → CM → Prop), Rel K B F σ H ρ C ∧ m ρ C P ∧
  ∀ d ρ' C' F' v H', Same F F' → Rel K B F' σ H' ρ' C' → Rep K F' v d → P d ρ' C' → Q v H'
def rdT (m : MT) : TT := fun σ H Q => ∃ (B : Base) (F : Hp) (ρ : Rho) (C : CM) (P : Bool → Rho → CM → Prop), Rel K B F σ H ρ C ∧ m ρ C P ∧
  ∀ b ρ' C' F' H', Same F F' → Rel K B F' σ H' ρ' C' → P b ρ' C' → Q b H'
def rdA (m : ML) : TA := fun σ H Q => ∃ (B : Base) (F : Hp) (ρ : Rho) (C : CM) (P : List D → Rho → CM → Prop), Rel K B F σ H ρ C ∧ m ρ C P ∧
  ∀ ds ρ' C' F' vs H', Same F F' → Rel K B F' σ H' ρ' C' → Reps K F' vs ds → P ds ρ' C' → Q vs H'
def rdO (m : MO) : TO := fun σ H Q => ∃ (B : Base) (F : Hp) (ρ : Rho) (C : CM) (P : Option Int → Rho → CM → Prop), Rel K B F σ H ρ C ∧ m ρ C P ∧
  ∀ o ρ' C' F' H', Same F F' → Rel K B F' σ H' ρ' C' → P o ρ' C' → Q o H'
/-- a fresh list -/
def rdL (m : ML) : TE := fun σ H Q => ∃ (B : Base) (F : Hp) (ρ : Rho) (C : CM) (P : List D → Rho → CM → Prop), Rel K B F σ H ρ C ∧ m ρ C P ∧
  ∀ ds ρ' C' F' a vs H', Same F F' → Rel K B F' σ H' ρ' C' → H' a = some (HO.lst vs) → Reps K F' vs ds → F' a = none → C' a = none → B.H a = none → NotOwn ρ' σ a → P ds ρ' C' → Q (.ref a) H'
def rdI (m : ML) : TI := fun σ H R => ∃ (B : Base) (F : Hp) (ρ : Rho) (C : CM) (P : List D → Rho → CM → Prop), Rel K B F σ H ρ C ∧ m ρ C P ∧
  ∀ ds ρ' C' F' J H', Same F F' → Rel K B F' σ H' ρ' C' → IterOk K F' ds J → P ds ρ' C' → R J H'
end
section
variable {X : Cx}
theorem pe_weak {e : Expr} {t t' : TE} (h : PE X e t) (k : ∀ σ H Q, t' σ H Q → t σ H Q) : PE X e t' := ⟨fun pins s σ H Q I q => h.run pins s σ H Q I (k σ H Q q)⟩
theorem pt_weak {e : Expr} {t t' : TT} (h : PT X e t) (k : ∀ σ H Q, t' σ H Q → t σ H Q) : PT X e t' := ⟨fun pins s σ H Q I q => h.run pins s σ H Q I (k σ H Q q)⟩
theorem pw_weak {e : Expr} {t t' : TT} (h : PW X e t) (k : ∀ σ H Q, t' σ H Q → t σ H Q) : PW X e t' := ⟨fun w pins s σ H Q I q => h.run w pins s σ H Q I (k σ H Q q)⟩
theorem pa_weak {e : List Expr} {t t' : TA} (h : PA X e t) (k : ∀ σ H Q, t' σ H Q → t σ H Q) : PA X e t' := ⟨fun pos pins s σ H Q I q => h.run pos pins s σ H Q I (k σ H Q q)⟩
theorem po_weak {e : Option Expr} {t t' : TO} (h : PO X e t) (k : ∀ σ H Q, t' σ H Q → t σ H Q) : PO X e t' := ⟨fun pins s σ H Q I q => h.run pins s σ H Q I (k σ H Q q)⟩
theorem pi_weak {tg e : Expr} {t t' : TI} (h : PI X tg e t) (k : ∀ σ H Q, t' σ H Q → t σ H Q) : PI X tg e t' := ⟨fun pins s σ H Q I q => h.run pins s σ H Q I (k σ H Q q)⟩

theorem e_var {i : Nat} {e : Expr} (h : PE X e (tVar i)) : PE X e (rd X.K fun ρ C P => varD ρ i fun d => P d ρ C) := pe_weak h fun σ H Q ⟨B, F, ρ, C, P, R, m, k⟩ => by
  unfold varD at m
  dsimp only at m
  split at m
  · rename_i d hd
    obtain ⟨v, e, r⟩ := R.dat i d hd
    exact ⟨v, e, k d ρ C F v H (Same.refl _) R r m⟩
  · exact m.elim
theorem e_mv {i : Nat} {e : Expr} (h : PE X e (tVar i)) : PE X e (rd X.K fun ρ C P => varM ρ i fun d ρ1 => P d ρ1 C) := pe_weak h fun σ H Q ⟨B, F, ρ, C, P, R, m, k⟩ => by
  unfold varM at m
  dsimp only at m
  split at m
  · rename_i xs hx
    obtain ⟨a, vs, e, s1, rep, R2⟩ := R.frzOwn hx
    exact ⟨_, e, k _ _ C _ _ H s1 R2 rep m⟩
  · rename_i d hx
    obtain ⟨v, e, r⟩ := R.dat i d hx
    exact ⟨v, e, k d ρ C F v H (Same.refl _) R r m⟩
  · exact m.elim
theorem e_const {d : D} {v : V} {e : Expr} (h : PE X e (tC v)) (r : ∀ F, Rep X.K F v d) : PE X e (rd X.K fun ρ C P => P d ρ C) := pe_weak h fun σ H Q ⟨B, F, ρ, C, P, R, m, k⟩ =>
  k d ρ C F v H (Same.refl _) R (r F) m
theorem rd_bind {ma : ME} {mb : D → ME} {σ : L2.St} {H : Hp} {Q : VK} {B : Base} {F : Hp} {ρ : Rho} {C : CM} {P : D → Rho → CM → Prop} (R : Rel X.K B F σ H ρ C) (m : ma ρ C P)
    (k : ∀ d ρ' C' F' v H', Same F F' → Rel X.K B F' σ H' ρ' C' → Rep X.K F' v d → P d ρ' C' → Q v H') : rd X.K ma σ H Q := ⟨B, F, ρ, C, P, R, m, k⟩
/-- two expressions, then an operation by values -/
theorem e_op2 {r : D → D → (D → Prop) → Prop} {ma mb : ME} {e : Expr} (h : PE X e (tOp (lift2 X.K r) (rd X.K ma) (rd X.K mb))) :
    PE X e (rd X.K fun ρ C P => ma ρ C fun x ρ1 C1 => mb ρ1 C1 fun y ρ2 C2 => r x y fun d => P d ρ2 C2) := pe_weak h fun σ H Q ⟨B, F, ρ, C, P, R, m, k⟩ =>
  ⟨B, F, ρ, C, _, R, m, fun x ρ1 C1 F1 v1 H1 s1 R1 r1 q1 => ⟨B, F1, ρ1, C1, _, R1, q1, fun y ρ2 C2 F2 v2 H2 s2 R2 r2 q2 =>
    ⟨F2, x, y, _, R2.ce.fh, r1.mono s2, r2, q2, fun d F3 v3 H3 g r3 p3 => k d ρ2 C2 F3 v3 H3 (s1.trans (s2.trans g.ff)) (R2.grow g) r3 p3⟩⟩⟩
theorem e_neg {ma : ME} {e : Expr} (h : PE X e (tUn (rU fun i => .int (-i)) (rd X.K ma))) :
    PE X e (rd X.K fun ρ C P => ma ρ C fun x ρ1 C1 => match x with | .int i => P (.int (-i)) ρ1 C1 | _ => False) := pe_weak h fun σ H Q ⟨B, F, ρ, C, P, R, m, k⟩ =>
  ⟨B, F, ρ, C, _, R, m, fun x ρ1 C1 F1 v1 H1 s1 R1 r1 q1 => by
    try dsimp only at q1
    split at q1
    · cases r1
      exact ⟨_, rfl, k _ ρ1 C1 F1 _ H1 s1 R1 (.int _) q1⟩
    · exact q1.elim⟩
/-- the value within a truth -/
def blP (f : Bool → Prop) : D → Prop
  | .bl b => f b
  | _ => False
theorem blP_inv {K : PySem.W.Frag} {F : Hp} {f : Bool → Prop} {d : D} {v : V} (r : Rep K F v d) (p : blP f d) : ∃ b, d = .bl b ∧ v = .bl b ∧ f b := by
  cases r <;> first | exact p.elim | skip
  exact ⟨_, rfl, rfl, p⟩
theorem e_chn {r r' : D → D → (Bool → Prop) → Prop} {ma mb mc : ME} {e : Expr} (h : PE X e (tChain (lift2 X.K fun d e P => r d e fun b => P (.bl b)) (lift2 X.K fun d e P => r' d e fun b => P (.bl b)) (rd X.K ma) (rd X.K mb) (rd X.K mc))) :
    PE X e (rd X.K fun ρ C P => ma ρ C fun x ρ1 C1 => mb ρ1 C1 fun y ρ2 C2 => r x y fun k => if k = true then mc ρ2 C2 fun z ρ3 C3 => r' y z fun k' => P (.bl k') ρ3 C3 else P (.bl false) ρ2 C2) :=
  pe_weak h fun σ H Q ⟨B, F, ρ, C, P, R, m, k⟩ =>
  ⟨B, F, ρ, C, _, R, m, fun x ρ1 C1 F1 v1 H1 s1 R1 r1 q1 => ⟨B, F1, ρ1, C1, _, R1, q1, fun y ρ2 C2 F2 v2 H2 s2 R2 r2 q2 =>
    ⟨F2, x, y, blP fun k => if k = true then mc ρ2 C2 fun z ρ3 C3 => r' y z fun k' => P (.bl k') ρ3 C3 else P (.bl false) ρ2 C2, R2.ce.fh, r1.mono s2, r2, q2, fun d F3 v3 H3 g r3 p3 => by
      obtain ⟨b, rfl, rfl, p3⟩ := blP_inv r3 p3
      refine ⟨b, rfl, ?_⟩
      cases b with
      | false => exact k _ ρ2 C2 F3 _ H3 (s1.trans (s2.trans g.ff)) (R2.grow g) (.bl _) p3
      | true => exact ⟨B, F3, ρ2, C2, _, R2.grow g, p3, fun z ρ3 C3 F4 v4 H4 s4 R4 r4 q4 => ⟨F4, y, z, blP fun k' => P (.bl k') ρ3 C3, R4.ce.fh, (r2.mono g.ff).mono s4, r4, q4, fun d F5 v5 H5 g5 r5 p5 => by
          obtain ⟨b, rfl, rfl, p5⟩ := blP_inv r5 p5
          exact k _ ρ3 C3 F5 _ H5 (s1.trans (s2.trans (g.ff.trans (s4.trans g5.ff)))) (R4.grow g5) (.bl _) p5⟩⟩⟩⟩⟩
theorem e_and {ma mb : ME} {e : Expr} (h : PE X e (tAndV (rd X.K ma) (rd X.K mb))) :
    PE X e (rd X.K fun ρ C P => ma ρ C fun x ρ1 C1 => match x with | .bl k => if k = true then mb ρ1 C1 P else P (.bl false) ρ1 C1 | _ => False) := pe_weak h fun σ H Q ⟨B, F, ρ, C, P, R, m, k⟩ =>
  ⟨B, F, ρ, C, _, R, m, fun x ρ1 C1 F1 v1 H1 s1 R1 r1 q1 => by
    try dsimp only at q1
    split at q1
    · rename_i b
      cases r1
      refine ⟨b, rfl, ?_⟩
      cases b with
      | false => exact k _ ρ1 C1 F1 _ H1 s1 R1 (.bl _) q1
      | true => exact ⟨B, F1, ρ1, C1, _, R1, q1, fun d ρ2 C2 F2 v2 H2 s2 R2 r2 q2 => k d ρ2 C2 F2 v2 H2 (s1.trans s2) R2 r2 q2⟩
    · exact q1.elim⟩
theorem e_or {ma mb : ME} {e : Expr} (h : PE X e (tOrV (rd X.K ma) (rd X.K mb))) :
    PE X e (rd X.K fun ρ C P => ma ρ C fun x ρ1 C1 => match x with | .bl k => if k = true then P (.bl true) ρ1 C1 else mb ρ1 C1 P | _ => False) := pe_weak h fun σ H Q ⟨B, F, ρ, C, P, R, m, k⟩ =>
  ⟨B, F, ρ, C, _, R, m, fun x ρ1 C1 F1 v1 H1 s1 R1 r1 q1 => by
    try dsimp only at q1
    split at q1
    · rename_i b
      cases r1
      refine ⟨b, rfl, ?_⟩
      cases b with
      | true => exact k _ ρ1 C1 F1 _ H1 s1 R1 (.bl _) q1
      | false => exact ⟨B, F1, ρ1, C1, _, R1, q1, fun d ρ2 C2 F2 v2 H2 s2 R2 r2 q2 => k d ρ2 C2 F2 v2 H2 (s1.trans s2) R2 r2 q2⟩
    · exact q1.elim⟩
theorem e_not {ma : ME} {e : Expr} (h : PE X e (tNotV (rd X.K ma))) :
    PE X e (rd X.K fun ρ C P => ma ρ C fun x ρ1 C1 => match x with | .bl k => P (.bl (!k)) ρ1 C1 | _ => False) := pe_weak h fun σ H Q ⟨B, F, ρ, C, P, R, m, k⟩ =>
  ⟨B, F, ρ, C, _, R, m, fun x ρ1 C1 F1 v1 H1 s1 R1 r1 q1 => by
    try dsimp only at q1
    split at q1
    · rename_i b
      cases r1
      exact ⟨b, rfl, k _ ρ1 C1 F1 _ H1 s1 R1 (.bl _) q1⟩
    · exact q1.elim⟩
theorem e_ife {mt : MT} {ma mb : ME} {e : Expr} (h : PE X e (tIf (rdT X.K mt) (rd X.K ma) (rd X.K mb))) :
    PE X e (rd X.K fun ρ C P => mt ρ C fun b ρ1 C1 => if b = true then ma ρ1 C1 P else mb ρ1 C1 P) := pe_weak h fun σ H Q ⟨B, F, ρ, C, P, R, m, k⟩ =>
  ⟨B, F, ρ, C, _, R, m, fun b ρ1 C1 F1 H1 s1 R1 q1 => by
    cases b with
    | false => exact ⟨B, F1, ρ1, C1, _, R1, q1, fun d ρ2 C2 F2 v2 H2 s2 R2 r2 q2 => k d ρ2 C2 F2 v2 H2 (s1.trans s2) R2 r2 q2⟩
    | true => exact ⟨B, F1, ρ1, C1, _, R1, q1, fun d ρ2 C2 F2 v2 H2 s2 R2 r2 q2 => k d ρ2 C2 F2 v2 H2 (s1.trans s2) R2 r2 q2⟩⟩
theorem a_nil : PA X [] (rdA X.K fun ρ C P => P [] ρ C) := pa_weak pa_nil fun σ H Q ⟨B, F, ρ, C, P, R, m, k⟩ => k _ ρ C F _ H (Same.refl _) R .nil m
theorem a_cons {ma : ME} {mb : ML} {es : List Expr} (h : PA X es (tCons (rd X.K ma) (rdA X.K mb))) :
    PA X es (rdA X.K fun ρ C P => ma ρ C fun x ρ1 C1 => mb ρ1 C1 fun xs ρ2 C2 => P (x :: xs) ρ2 C2) := pa_weak h fun σ H Q ⟨B, F, ρ, C, P, R, m, k⟩ =>
  ⟨B, F, ρ, C, _, R, m, fun x ρ1 C1 F1 v1 H1 s1 R1 r1 q1 => ⟨B, F1, ρ1, C1, _, R1, q1, fun xs ρ2 C2 F2 vs H2 s2 R2 r2 q2 => k _ ρ2 C2 F2 _ H2 (s1.trans s2) R2 (.cons (r1.mono s2) r2) q2⟩⟩
theorem o_no : PO X none (rdO X.K fun ρ C P => P none ρ C) := po_weak po_none fun σ H Q ⟨B, F, ρ, C, P, R, m, k⟩ => k _ ρ C F H (Same.refl _) R m
theorem o_yes {ma : ME} {e : Expr} (h : PE X e (rd X.K ma)) : PO X (some e) (rdO X.K fun ρ C P => ma ρ C fun x ρ1 C1 => match x with | .int i => P (some i) ρ1 C1 | _ => False) :=
  po_weak (po_some h) fun σ H Q ⟨B, F, ρ, C, P, R, m, k⟩ => ⟨B, F, ρ, C, _, R, m, fun x ρ1 C1 F1 v1 H1 s1 R1 r1 q1 => by
    try dsimp only at q1
    split at q1
    · cases r1
      exact ⟨_, rfl, k _ ρ1 C1 F1 H1 s1 R1 q1⟩
    · exact q1.elim⟩
theorem e_tup {ma : ML} {e : Expr} (h : PE X e (tTup (rdA X.K ma))) : PE X e (rd X.K fun ρ C P => ma ρ C fun ds ρ1 C1 => ds.length ≤ sizeLine ∧ P (.tup ds) ρ1 C1) := pe_weak h fun σ H Q ⟨B, F, ρ, C, P, R, m, k⟩ =>
  ⟨B, F, ρ, C, _, R, m, fun ds ρ1 C1 F1 vs H1 s1 R1 r1 q1 => ⟨by rw [r1.length]; exact q1.1, fun p hp => by
    have g := Grow.new (o := HO.tup vs) R1.ce.fh hp
    exact k _ ρ1 C1 _ _ _ (s1.trans g.ff) (R1.grow g) (.tup (SqT.of upd_same) (r1.mono g.ff)) q1.2⟩⟩
/-- a fresh list, at a new address -/
theorem rel_fresh {K : PySem.W.Frag} {B : Base} {F H : Hp} {σ : L2.St} {ρ : Rho} {C : CM} {p : Addr} {vs : List V} (R : Rel K B F σ H ρ C) (hp : H p = none) :
    Rel K B F σ (upd H p (HO.lst vs)) ρ C ∧ F p = none ∧ C p = none ∧ B.H p = none ∧ NotOwn ρ σ p := by
  have fn := same_none R.ce.fh hp
  refine ⟨R.grow ⟨Same.refl _, same_upd hp, fun a o h => ?_, fun _ _ h => .inl h⟩, fn, R.cell_none hp, R.base_none hp, R.notOwn_of hp⟩
  rw [upd_ne (fun z => by rw [z, fn] at h; cases h)]
  exact R.ce.fh a o h
theorem l_lit {ma : ML} {e : Expr} (h : PE X e (tLst (rdA X.K ma))) : PE X e (rdL X.K fun ρ C P => ma ρ C fun ds ρ1 C1 => ds.length ≤ sizeLine ∧ P ds ρ1 C1) := pe_weak h fun σ H Q ⟨B, F, ρ, C, P, R, m, k⟩ =>
  ⟨B, F, ρ, C, _, R, m, fun ds ρ1 C1 F1 vs H1 s1 R1 r1 q1 => ⟨by rw [r1.length]; exact q1.1, fun p hp => by
    obtain ⟨R2, f1, f2, f3, f4⟩ := rel_fresh (vs := vs) R1 hp
    exact k _ ρ1 C1 F1 p vs _ s1 R2 upd_same r1 f1 f2 f3 f4 q1.2⟩⟩
/-- a fresh list by values of one expression -/
theorem l_call1 {r : D → (List D → Prop) → Prop} {ma : ME} {e : Expr} (h : PE X e (tCB (liftF X.K r) (tCons (rd X.K ma) tNil))) : PE X e (rdL X.K fun ρ C P => ma ρ C fun x ρ1 C1 => r x fun ds => P ds ρ1 C1) := pe_weak h fun σ H Q ⟨B, F, ρ, C, P, R, m, k⟩ =>
  ⟨B, F, ρ, C, _, R, m, fun x ρ1 C1 F1 v1 H1 s1 R1 r1 q1 => ⟨F1, v1, x, _, rfl, R1.ce.fh, r1, q1, fun ds p vs hp rs p3 => by
    obtain ⟨R2, f1, f2, f3, f4⟩ := rel_fresh (vs := vs) R1 hp
    exact k _ ρ1 C1 F1 p vs _ s1 R2 upd_same rs f1 f2 f3 f4 p3⟩⟩
theorem l_rep {ma mb : ME} {e : Expr} (h : PE X e (tOp rRep (rd X.K ma) (rd X.K mb))) : PE X e (rdL X.K fun ρ C P => ma ρ C fun x ρ1 C1 => mb ρ1 C1 fun y ρ2 C2 => match x, y with
    | .lst xs, .int k => -(2 ^ 63) ≤ k ∧ k < 2 ^ 63 ∧ xs.length * k.toNat ≤ sizeLine ∧ P (List.replicate k.toNat xs).flatten ρ2 C2
    | _, _ => False) := pe_weak h fun σ H Q ⟨B, F, ρ, C, P, R, m, k⟩ =>
  ⟨B, F, ρ, C, _, R, m, fun x ρ1 C1 F1 v1 H1 s1 R1 r1 q1 => ⟨B, F1, ρ1, C1, _, R1, q1, fun y ρ2 C2 F2 v2 H2 s2 R2 r2 q2 => by
    try dsimp only at q2
    split at q2
    · rename_i n
      obtain ⟨a, vs, rfl, ha, ra⟩ := r1.lst_inv
      cases r2
      obtain ⟨m1, m2, m3, m4⟩ := q2
      refine ⟨a, _, vs, rfl, rfl, R2.ce.fh _ _ (s2 _ _ ha), m1, m2, by rw [ra.length]; exact m3, fun p hp => ?_⟩
      obtain ⟨R3, f1, f2, f3, f4⟩ := rel_fresh (vs := (List.replicate (Int.toNat n) vs).flatten) R2 hp
      exact k _ ρ2 C2 F2 p _ _ (s1.trans s2) R3 upd_same ((ra.mono s2).flatten _) f1 f2 f3 f4 m4
    · exact q2.elim⟩⟩
theorem e_frz {ml : ML} {e : Expr} (h : PE X e (rdL X.K ml)) : PE X e (rd X.K fun ρ C P => ml ρ C fun ds ρ1 C1 => P (.lst ds) ρ1 C1) := pe_weak h fun σ H Q ⟨B, F, ρ, C, P, R, m, k⟩ =>
  ⟨B, F, ρ, C, _, R, m, fun ds ρ1 C1 F1 a vs H1 s1 R1 hl rs n1 n2 n3 no q1 => by
    have s2 : Same F1 (upd F1 a (HO.lst vs)) := same_upd n1
    exact k _ ρ1 C1 _ _ H1 (s1.trans s2) (R1.frzNew hl n1 n2 n3 no) (.lst upd_same (rs.mono s2)) q1⟩
theorem e_cel {ml : ML} {e : Expr} (h : PE X e (rdL X.K ml)) : PE X e (rd X.K fun ρ C P => ml ρ C fun ds ρ1 C1 => ∀ a, C1 a = none → P (.ref a) ρ1 (fun b => if b = a then some (.lst ds) else C1 b)) := pe_weak h fun σ H Q ⟨B, F, ρ, C, P, R, m, k⟩ =>
  ⟨B, F, ρ, C, _, R, m, fun ds ρ1 C1 F1 a vs H1 s1 R1 hl rs n1 n2 n3 no q1 => k _ ρ1 _ F1 _ H1 s1 (R1.newCell hl rs n1 n3 no) (.ref a) (q1 a n2)⟩
theorem e_ix {ma mb : ME} {e : Expr} (h : PE X e (tOp (liftI X.K) (rd X.K ma) (rd X.K mb))) : PE X e (rd X.K fun ρ C P => ma ρ C fun x ρ1 C1 => mb ρ1 C1 fun y ρ2 C2 => itemR C2 x y fun d => P d ρ2 C2) := pe_weak h fun σ H Q ⟨B, F, ρ, C, P, R, m, k⟩ =>
  ⟨B, F, ρ, C, _, R, m, fun x ρ1 C1 F1 v1 H1 s1 R1 r1 q1 => ⟨B, F1, ρ1, C1, _, R1, q1, fun y ρ2 C2 F2 v2 H2 s2 R2 r2 q2 =>
    ⟨F2, x, y, C2, _, R2.ce, r1.mono s2, r2, q2, fun d v r3 p3 => k d ρ2 C2 F2 v H2 (s1.trans s2) R2 r3 p3⟩⟩⟩
theorem e_sl {ma : ME} {ml mh : MO} {e : Expr} (h : PE X e (tSl (liftSl X.K) (rd X.K ma) (rdO X.K ml) (rdO X.K mh))) :
    PE X e (rd X.K fun ρ C P => ma ρ C fun x ρ1 C1 => ml ρ1 C1 fun l ρ2 C2 => mh ρ2 C2 fun u ρ3 C3 => sliceR C3 x l u fun d => P d ρ3 C3) := pe_weak h fun σ H Q ⟨B, F, ρ, C, P, R, m, k⟩ =>
  ⟨B, F, ρ, C, _, R, m, fun x ρ1 C1 F1 v1 H1 s1 R1 r1 q1 => ⟨B, F1, ρ1, C1, _, R1, q1, fun l ρ2 C2 F2 H2 s2 R2 q2 => ⟨B, F2, ρ2, C2, _, R2, q2, fun u ρ3 C3 F3 H3 s3 R3 q3 =>
    ⟨F3, C3, x, _, R3.ce, (r1.mono s2).mono s3, q3, fun d F4 v4 H4 g r4 p4 => k d ρ3 C3 F4 v4 H4 (s1.trans (s2.trans (s3.trans g.ff))) (R3.grow g) r4 p4⟩⟩⟩⟩
theorem e_blt {f : Blt} {ma : ML} {e : Expr} (h : PE X e (tCB (liftB X.K fun C ds P => bltR C f ds P) (rdA X.K ma))) : PE X e (rd X.K fun ρ C P => ma ρ C fun ds ρ1 C1 => bltR C1 f ds fun d => P d ρ1 C1) := pe_weak h fun σ H Q ⟨B, F, ρ, C, P, R, m, k⟩ =>
  ⟨B, F, ρ, C, _, R, m, fun ds ρ1 C1 F1 vs H1 s1 R1 r1 q1 => ⟨F1, ds, C1, _, R1.ce, r1, q1, fun d F2 v2 H2 g r2 p2 => k d ρ1 C1 F2 v2 H2 (s1.trans g.ff) (R1.grow g) r2 p2⟩⟩
theorem e_isi {ma : ME} {t : Ty} {e : Expr} (h : PE X e (tCB (liftIs X.K t) (tCons (rd X.K ma) (tCons (tC (.ty (tyName t))) tNil)))) : PE X e (rd X.K fun ρ C P => ma ρ C fun x ρ1 C1 => ∃ b, isTy t x = some b ∧ P (.bl b) ρ1 C1) := pe_weak h fun σ H Q ⟨B, F, ρ, C, P, R, m, k⟩ =>
  ⟨B, F, ρ, C, _, R, m, fun x ρ1 C1 F1 v1 H1 s1 R1 r1 ⟨b, hb, q1⟩ => ⟨F1, v1, x, b, rfl, R1.ce.fh, r1, hb, k _ ρ1 C1 F1 _ H1 s1 R1 (.bl b) q1⟩⟩
/-- what a def promises -/
def spOf (K : PySem.W.Frag) (g : List D → CM → (D → CM → Prop) → Prop) : Sp := fun vs H Q _ => ∃ (F : Hp) (C : CM) (ds : List D) (P : D → CM → Prop), Cells K F H C ∧ Reps K F vs ds ∧ g ds C P ∧
  ∀ d C' F' v H', Cells K F' H' C' → Fr H F C H' F' C' → Rep K F' v d → P d C' → Q v H'
theorem e_call {g : List D → CM → (D → CM → Prop) → Prop} {E : XK} {ma : ML} {e : Expr} (h : PE X e (tCall (spOf X.K g) [] E (rdA X.K ma))) :
    PE X e (rd X.K fun ρ C P => ma ρ C fun ds ρ1 C1 => g ds C1 fun d C2 => P d ρ1 C2) := pe_weak h fun σ H Q ⟨B, F, ρ, C, P, R, m, k⟩ =>
  ⟨B, F, ρ, C, _, R, m, fun ds ρ1 C1 F1 vs H1 s1 R1 r1 q1 => by
    refine ⟨F1, C1, ds, _, R1.ce, by rw [List.append_nil]; exact r1, q1, fun d C2 F2 v2 H2 c2 f2 r2 p2 => k d ρ1 C2 F2 v2 H2 (s1.trans f2.ff) (R1.step f2 c2) r2 p2⟩⟩
end
end M61

set_option Elab.async false
set_option linter.all false
set_option autoImplicit false
set_option maxRecDepth 100000
/-! N1: list(reversed(a list)). -/
namespace M61.N1
open PySem PySem.Spec PyProof.Rows L2 RT
section
variable {prog : Program} {w : World} {A : Around} {E : Value → Shared → Prop} {s : Shared}
open RT in
theorem ext_rv {R : Result → Shared → Prop} {it l S : Addr} {items : Array Value} {c0 : Nat} (res : Value) (hh : A.handled = none) (hit : s.heap.IsRevIter it l ((items.size : Int) - 1)) (hl : s.heap.IsList l items) (hne : l ≠ it) (hn : items.size ≤ sizeLine)
    (q0 : s.heap.get? S = some { cls := .type "list", data := .seq #[] c0 }) (hS : S ≠ it) (hS2 : S ≠ l)
    (hR : ∀ (h' : Heap) (tk : Nat) (acc : Array Value) (c : Nat), (∀ b o, b ≠ it → b ≠ S → s.heap.get? b = some o → h'.get? b = some o) → h'.get? S = some { cls := .type "list", dict := none, data := .seq acc c, slots := #[] } → ItemsOf (fun i v => items[items.size - 1 - i]? = some v) acc items.size → R (.ok (.ret res)) { s with heap := h', toks := tk }) :
    wpAny (model prog w) A.in1 (Builtin.List.listExtendWith (.ref S) (.ref it) res)
      (fun fin s' => match fin with | .done f => R (.ok f) s' | .again c' => c'.quiet = true ∧ codeAny (model prog w) A c' R s') (fun e s' => R (.error e) s') s := by
  have WW := (Walks.listRev (prog := prog) (w := w) (A := A.in1) hh it l hne items).toS
  have hSf : S ∉ [it, l] := by simp only [List.mem_cons, List.not_mem_nil, or_false, not_or]; exact ⟨hS, hS2⟩
  have hT : s.TypeIs (.ref it) "list_reverseiterator" := Heap.IsRevIter.typeIs (s := s) hit
  have same0 : Builtin.List.listSameRef (.ref S) (.ref it) = false := by simp [Builtin.List.listSameRef, hS]
  unfold Builtin.List.listExtendWith; refine wpAny_bind (wpAny_typeOf hT ?_)
  rw [if_neg (by rw [same0]; decide)]; refine wpAny_bind (wpAny_pyIter_revIter (s := s) hit ?_); refine wpAny_bind (wpAny_holding ?_)
  unfold Builtin.List.listLengthHint; refine wpAny_bind (wpAny_specialOf hT nolen_lri ?_)
  show wpAny _ A.in1 (specialOf (Value.ref it) (Str.ofString "__length_hint__") >>= _) _ _ _; refine wpAny_bind (wpAny_specialOf hT hint_lri ?_)
  generalize hid : ("list_reverseiterator.__length_hint__" : String) = idn; wp_delta
  rw [show splitId idn = some ("list_reverseiterator", "__length_hint__") from by subst hid; decide +kernel]; subst hid
  refine wpAny_bind (wpAny_isInstance (b := true) hT (by rw [isSubtype_type]; kernel_rfl) ?_); refine wpAny_pure ?_
  rw [if_neg (by decide)]
  have e0 : ((items.size : Nat) : Int) - 1 - ((0 : Nat) : Int) = (items.size : Int) - 1 := by rw [Int.natCast_zero, Int.sub_zero]
  refine wpAny_pure ⟨plainId_quiet F.plain_extend_loop _, codeAny_extend_loopS WW hn _ hSf _ items.size 0 _ _ _ rfl (Nat.zero_le _) ⟨Nat.zero_le _, by rw [e0]; exact hit, hl⟩ q0 (ItemsOf.nil _) fun s1 ac cc hm hq hac => ?_⟩
  rw [Moved.eq_with hm]
  refine hR s1.heap s1.toks ac cc (fun b o hb hb2 e => hm.heap b o (fun hmem => ?_) e) hq hac
  rcases List.mem_cons.mp hmem with hmem | hmem
  · exact hb2 hmem
  · exact hb (List.mem_singleton.mp hmem)
open RT in
theorem init_rv {R : Result → Shared → Prop} {it l S : Addr} {items : Array Value} (hh : A.handled = none) (hit : s.heap.IsRevIter it l ((items.size : Int) - 1)) (hl : s.heap.IsList l items) (hne : l ≠ it) (hn : items.size ≤ sizeLine)
    (q0 : s.heap.get? S = some { cls := .type "list", data := .seq #[] }) (hS : S ≠ it) (hS2 : S ≠ l)
    (hR : ∀ (h' : Heap) (tk : Nat) (acc : Array Value) (c : Nat), (∀ b o, b ≠ it → b ≠ S → s.heap.get? b = some o → h'.get? b = some o) → h'.get? S = some { cls := .type "list", dict := none, data := .seq acc c, slots := #[] } → ItemsOf (fun i v => items[items.size - 1 - i]? = some v) acc items.size → R (.ok (.ret .none)) { s with heap := h', toks := tk }) :
    wpAny (model prog w) A.in1 (Builtin.«list.__init__» ⟨[.ref S, .ref it], []⟩)
      (fun fin s' => match fin with | .done f => R (.ok f) s' | .again c' => c'.quiet = true ∧ codeAny (model prog w) A c' R s') (fun e s' => R (.error e) s') s := by
  show wpAny _ A.in1 (do let old0 ← Builtin.List.listItems (.ref S); Builtin.List.listUpdate (.ref S) (fun _ => #[]); letGo old0.toList.reverse; Builtin.List.listExtendWith (.ref S) (.ref it) .none) _ _ s
  refine wpAny_bind ?_; unfold Builtin.List.listItems; refine wpAny_bind (wpAny_seqItems q0 rfl (wpAny_pure ?_))
  show wpAny _ A.in1 (updateSeq S (fun _ => #[]) >>= fun _ => letGo (#[] : Array Value).toList.reverse >>= fun _ => Builtin.List.listExtendWith (.ref S) (.ref it) .none) _ _ s
  refine wpAny_bind (wpAny_updateSeq q0 rfl ?_)
  have q2 := Heap.get?_update_self (Obj.mapSeq (fun _ => (#[] : Array Value))) q0 rfl
  have oth : ∀ b o, b ≠ S → s.heap.get? b = some o → (s.heap.update S (Obj.mapSeq (fun _ => (#[] : Array Value)))).get? b = some o := fun b o hb e => (Heap.get?_update_other _ _ (Ne.symm hb)).trans e
  refine wpAny_bind (wpAny_letGo ?_)
  obtain ⟨ol, hol, cl, rl⟩ := id hl
  refine ext_rv (s := { s with heap := s.heap.update S (Obj.mapSeq (fun _ => (#[] : Array Value))) }) .none hh (hit.at fun o e => oth it o (Ne.symm hS) e) ⟨ol, oth l ol (Ne.symm hS2) hol, cl, rl⟩ hne hn q2 hS hS2 fun h' tk acc c hk hq hac => hR h' tk acc c (fun b o hb hb2 e => hk b o hb hb2 (oth b o hb2 e)) hq hac
theorem call_rv {Q : Value → Shared → Prop} {it l : Addr} {items : Array Value} (hh : A.handled = none) (hit : s.heap.IsRevIter it l ((items.size : Int) - 1)) (hl : s.heap.IsList l items) (hne : l ≠ it) (hn : items.size ≤ sizeLine)
    (hQ : ∀ (h' : Heap) (tk : Nat) (acc : Array Value) (c : Nat), (∀ b o, b ≠ it → s.heap.get? b = some o → h'.get? b = some o) → h'.get? s.heap.objs.size = some { cls := .type "list", dict := none, data := .seq acc c, slots := #[] } → ItemsOf (fun i v => items[items.size - 1 - i]? = some v) acc items.size →
      Q (.ref s.heap.objs.size) { s with heap := h', toks := tk }) : wpAny (model prog w) A (call (.type "list") [.ref it]) Q E s := by
  refine callType_codes (Q₁ := fun u t => u = .ref s.heap.objs.size ∧ t = { s with heap := s.heap.push { cls := .type "list", data := .seq #[] } }) F.called_list (F.typeCall_list_1 _) F.entry_list_init (code_list_new _ ⟨rfl, rfl⟩) fun u t ht => ?_
  obtain ⟨rfl, rfl⟩ := ht
  have q0 : (s.heap.push { cls := .type "list", data := .seq #[] }).get? s.heap.objs.size = some { cls := .type "list", data := .seq #[] } := Heap.get?_push_size _ rfl
  obtain ⟨oi, hoi, _⟩ := id hit
  obtain ⟨ol, hol, _⟩ := id hl
  refine ⟨⟨_, q0, rfl⟩, F.args_list_init_2 _ _, init_rv (A := A.in1) (s := { s with heap := s.heap.push { cls := .type "list", data := .seq #[] } }) hh (hit.at fun o e => Heap.get?_push_of_some _ e) (hl.push _) hne hn q0 (Nat.ne_of_gt (Heap.lt_size hoi)) (Nat.ne_of_gt (Heap.lt_size hol)) fun h' tk acc c hk hq hac => ?_⟩
  exact ⟨rfl, hQ h' tk acc c (fun b o hb e => hk b o hb (Nat.ne_of_lt (Heap.lt_size e)) (Heap.get?_push_of_some _ e)) hq hac⟩
end
/-- what it reads -/
def tLstRev (K : PySem.W.Frag) (te : TE) : TE := fun σ H Q => te σ H fun v H1 => ∃ (a : Addr) (xs : List V), v = .ref a ∧ SqL K H1 a xs ∧ ∀ q, H1 q = none → Q (.ref q) (upd H1 q (.lst xs.reverse))
section
variable {X : Cx}
theorem pe_lstRev {e : Expr} {te : TE} {p p2 pos pos2 : Pos} (hc : X.calm = true) (g1 : Gl X "list") (m1 : X.mg "list" = none) (g2 : Gl X "reversed") (m2 : X.mg "reversed" = none) (he : PE X e te)
    (s1 : starEach [e] X.env = (false, eval e X.env) :: starEach [] X.env := by rfl)
    (s2 : starEach [.Call (.Name "reversed" p2) [e] [] pos2] X.env = (false, eval (.Call (.Name "reversed" p2) [e] [] pos2) X.env) :: starEach [] X.env := by rfl) :
    PE X (.Call (.Name "list" p) [.Call (.Name "reversed" p2) [e] [] pos2] [] pos) (tLstRev X.K te) := by
  constructor
  intro pins s σ H Q I h
  refine Call_ (ld_blt I g1 m1 boot_list (PyProof.Rows.callWith_type1 (args_cons (Call_ (ld_blt I g2 m2 PyProof.Rows.boot_reversed (PyProof.Rows.callWith_type1 (args_cons (thn (he.run pins s σ H _ I h) fun u t ⟨v, H1, I1, r1, q1⟩ => args_nil ?_) s1) s1 rfl))) s2) s2 rfl))
  obtain ⟨a, xs, ev, hq, q⟩ := q1
  subst ev
  obtain rfl : u = Value.ref a := r1
  obtain ⟨its, rv, pl, hz⟩ := I1.list hq
  refine call_reversed_list pl.isList (args_nil ?_)
  have hli := pl.isList
  obtain ⟨ol, hol, _⟩ := id hli
  have hne : a ≠ t.heap.objs.size := Nat.ne_of_lt (Heap.lt_size hol)
  have hn : its.toArray.size ≤ sizeLine := by rw [List.size_toArray, ← rv.length]; exact hz
  refine call_rv (s := { t with heap := t.heap.push (revObj a ((its.toArray.size : Int) - 1)) }) (I1.ok.hd hc) ⟨_, Heap.get?_push_size _ rfl, rfl, rfl⟩ (hli.push _) hne hn fun h' tk acc c hk e' hi => ?_
  have kp : ∀ b o, t.heap.get? b = some o → h'.get? b = some o := fun b o e => hk b o (Nat.ne_of_lt (Heap.lt_size e)) (Heap.get?_push_of_some _ e)
  have hS : t.heap.objs.size ≤ (t.heap.push (revObj a ((its.toArray.size : Int) - 1))).objs.size := by rw [Heap.size_push]; exact Nat.le_succ _
  refine ⟨.ref _, upd H1 _ (.lst xs.reverse), I1.laid (t' := tk) kp hS (show ObjOk X.prog X.w _ _ _ (.lst xs.reverse) from ⟨by rw [List.length_reverse]; exact hz, acc.toList, c, vals_rev rv hi, ?_⟩), rfl, q _ (I1.hok.fresh hS)⟩
  rw [Array.toArray_toList]; exact e'
end
end M61.N1

set_option Elab.async false
set_option linter.all false
set_option autoImplicit false
set_option maxRecDepth 100000
/-! M4c: t[::-1]; own lists and cells. -/
namespace M61
open PySem PySem.Spec PyProof.Rows L2 HT
section
variable {prog : Program} {w : World} {A : Around} {E : Value → Shared → Prop} {s : Shared}
theorem adjust_rev (n : Nat) : Builtin.Slice.sliceAdjust none none (-1) (n : Int) = ((n : Int) - 1, -1) := by
  unfold Builtin.Slice.sliceAdjust
  rfl
theorem places_rev (n : Nat) : Builtin.Slice.slicePlaces ((n : Int) - 1) (-1) (-1) = n := by
  unfold Builtin.Slice.slicePlaces
  have h0 : ¬ ((-1 : Int) > 0) := by decide
  simp only [h0, if_false]
  by_cases h : n = 0
  · subst h; rfl
  · have h1 : ((n : Int) - 1 > -1) := by omega
    have h2 : (-(-1 : Int)) = 1 := rfl
    simp only [h1, if_true, h2, Int.ediv_one]
    omega
theorem fm_congr {α β : Type} {f g : α → Option β} : ∀ {l : List α}, (∀ x ∈ l, f x = g x) → l.filterMap f = l.filterMap g
  | [], _ => rfl
  | x :: l, h => by
    rw [List.filterMap_cons, List.filterMap_cons, h x (List.mem_cons_self ..), fm_congr fun y hy => h y (List.mem_cons_of_mem _ hy)]
theorem pick_rev1 {α : Type} : ∀ (n : Nat) (xs : List α), xs.length = n → (List.range xs.length).filterMap (fun k => xs[xs.length - 1 - k]?) = xs.reverse
  | 0, xs, h => by rw [List.eq_nil_of_length_eq_zero h]; rfl
  | n + 1, xs, h => by
    have hne : xs ≠ [] := fun e => by rw [e] at h; cases h
    have e0 := (List.dropLast_concat_getLast hne)
    generalize hy : xs.getLast hne = y at e0
    generalize hys : xs.dropLast = ys at e0
    have ih := pick_rev1 n ys (by rw [← hys, List.length_dropLast, h]; rfl)
    rw [← e0, List.length_append, List.length_singleton, List.range_succ_eq_map, List.filterMap_cons, List.filterMap_map, List.reverse_append]
    have e : (ys ++ [y])[ys.length + 1 - 1 - 0]? = some y := by simp
    rw [e]
    show y :: _ = y :: ys.reverse
    congr 1
    rw [← ih]
    refine fm_congr fun k hk => ?_
    have hk' : k < ys.length := List.mem_range.mp hk
    show (ys ++ [y])[ys.length + 1 - 1 - (k + 1)]? = ys[ys.length - 1 - k]?
    rw [List.getElem?_append_left (by omega)]
    congr 1
    omega
theorem pick_rev0 {α : Type} (xs : List α) : (List.range xs.length).filterMap (fun k => xs[xs.length - 1 - k]?) = xs.reverse := pick_rev1 _ xs rfl
theorem pick_rev (items : Array Value) : ((List.range items.size).filterMap fun (k : Nat) => items[(((items.size : Nat) : Int) - 1 + (k : Int) * -1).toNat]?).toArray = items.toList.reverse.toArray := by
  rw [← pick_rev0 items.toList]
  congr 1
  rw [Array.length_toList]
  refine fm_congr fun k hk => ?_
  have hk' : k < items.size := List.mem_range.mp hk
  rw [show (((items.size : Nat) : Int) - 1 + (k : Int) * -1).toNat = items.size - 1 - k by omega]
  simp
theorem sliceApplied_rev {sl : Addr} {vl vu vs : Value} {n : Nat} {Q : Int × Int × Nat → Shared → Prop} (hs : s.heap.IsSliceOf sl vl vu vs) (pl : IsPart vl none) (pu : IsPart vu none) (ps : IsPart vs (some (-1)))
    (h : Q ((n : Int) - 1, -1, n) s) : wpAny (model prog w) A (Builtin.Slice.sliceApplied (.ref sl) (pure (n : Int))) Q E s := by
  obtain ⟨os, hos, hcs, hds⟩ := id hs
  unfold Builtin.Slice.sliceApplied Builtin.Slice.sliceFields
  refine wpAny_bind (wpAny_bind (wpAny_field hos hds (x := vl) rfl (wpAny_bind (wpAny_field hos hds (x := vu) rfl (wpAny_bind (wpAny_field hos hds (x := vs) rfl (wpAny_pure ?_)))))))
  refine wpAny_bind (slicePart_ ps ?_)
  show wpAny _ _ (if ((-1 : Int) == 0) = true then _ else _) _ _ s
  rw [if_neg (by decide)]
  refine wpAny_bind (slicePart_ pl (wpAny_bind (slicePart_ pu (wpAny_bind (wpAny_pure ?_)))))
  show wpAny _ _ (match Builtin.Slice.sliceAdjust none none (-1) (n : Int) with | (lo, hi) => pure (lo, (-1 : Int), Builtin.Slice.slicePlaces lo hi (-1))) _ _ s
  rw [adjust_rev n]
  show wpAny _ _ (pure ((n : Int) - 1, (-1 : Int), Builtin.Slice.slicePlaces ((n : Int) - 1) (-1) (-1))) _ _ s
  rw [places_rev]
  exact wpAny_pure h
theorem getItem_tuple_rev {t sl : Addr} {items : Array Value} {vl vu vs : Value} {Q : Value → Shared → Prop} (ht : IsTup s.heap t items) (hs : s.heap.IsSliceOf sl vl vu vs) (pl : IsPart vl none) (pu : IsPart vu none) (ps : IsPart vs (some (-1)))
    (h : Q (.ref s.heap.objs.size) { s with heap := s.heap.push { cls := .type "tuple", data := .seq items.toList.reverse.toArray } })
    (hsz : items.size ≤ sizeLine) : wpAny (model prog w) A (getItem (.ref t) (.ref sl)) Q E s := by
  have htake : sizeOk (.seq items.toList.reverse.toArray) := by
    show items.toList.reverse.toArray.size ≤ sizeLine
    rw [List.size_toArray, List.length_reverse, Array.length_toList]
    omega
  obtain ⟨os, hos, hcs, hds⟩ := id hs
  have hTs : s.TypeIs (.ref sl) "slice" := ⟨os, hos, hcs⟩
  unfold getItem
  try with_reducible refine wpAny_holding ?_
  first | refine wpAny_bind (wpAny_pure ?_) | skip
  refine wpAny_bind (wpAny_sequenceKey ht.typeIs (by decide) ?_)
  refine wpAny_bind (wpAny_callSpecial?_slot (name := Str.ofString "__getitem__") ht.typeIs PyProof.Rows.slot_tuple_getitem
    (wpAny_call_entry PyProof.Rows.slot_tuple_getitem ht.typeIs entry_tuple_getitem ?_ (args_tuple_getitem _ _)))
  show wpAny _ _ (Builtin.Tuple.tupleItemsOf (.ref t) >>= _) _ _ s
  refine wpAny_bind (tupleItemsOf_ ht ?_)
  refine wpAny_bind (wpAny_typeOf hTs ?_)
  rw [if_pos (by decide)]
  refine wpAny_bind (sliceApplied_rev hs pl pu ps ?_)
  have hno : ¬ (((((items.size : Nat) : Int) - 1) == 0 && (-1 : Int) == 1 && items.size == items.size) = true) := by
    intro q
    rw [Bool.and_eq_true, Bool.and_eq_true] at q
    exact absurd q.1.2 (by decide)
  show wpAny _ _ (if ((((items.size : Nat) : Int) - 1) == 0 && (-1 : Int) == 1 && items.size == items.size) = true then _ else _) _ _ s
  rw [if_neg hno, pick_rev]
  first
    | exact wpAny_bind (m := Builtin.Tuple.tupleExact _) (wpAny_newObj_type (wpAny_pure ⟨_, rfl, wpAny_pure h⟩) htake)
    | exact wpAny_bind (m := Builtin.Tuple.tupleExact _) (wpAny_newObj_type (wpAny_bind (wpAny_pure (wpAny_pure ⟨_, rfl, wpAny_pure h⟩))) htake)
    | exact wpAny_bind (wpAny_bind (m := Builtin.Tuple.tupleExact _) (wpAny_newObj_type (wpAny_pure (wpAny_pure ⟨_, rfl, wpAny_pure h⟩)) htake))
    | exact wpAny_bind (wpAny_bind (m := Builtin.Tuple.tupleExact _) (wpAny_newObj_type (wpAny_pure ⟨_, rfl, wpAny_pure h⟩) htake))
end
/-- x[::-1] of a list or a tuple -/
def tRevA (K : PySem.W.Frag) (te : TE) : TE := fun σ H Q => te σ H fun x H1 => ∃ a xs, x = .ref a ∧ ((SqL K H1 a xs ∧ ∀ p, H1 p = none → Q (.ref p) (upd H1 p (.lst xs.reverse))) ∨ (SqT K H1 a xs ∧ ∀ p, H1 p = none → Q (.ref p) (upd H1 p (.tup xs.reverse))))
section
variable {X : Cx}
theorem pe_revA {e : Expr} {te : TE} {k : Nat} {p1 p2 p3 pos : Pos} (he : PE X e te) : PE X (.Subscript e (.Slice none none (some (.UnaryOp .USub (.Constant (.int 1) k p1) p2)) p3) pos) (tRevA X.K te) := by
  refine ⟨fun pins s σ H Q I h => ?_⟩
  refine Subscript_ (thn (he.run pins s σ H _ I h) fun v s1 ⟨x, H1, I1, r1, q1⟩ => ?_)
  obtain ⟨a, xs, ex, q⟩ := q1
  subst ex
  cases r1
  have hst : PO X (some (.UnaryOp .USub (.Constant (.int 1) k p1) p2)) (tPart (tUn (rU fun i => .int (-i)) (tC (.int 1)))) := po_some (pe_un un_neg pe_int)
  refine wpAny_Slice (thn (po_none.run pins s1 σ H1 (fun o H2 => o = none ∧ H2 = H1) I1 ⟨rfl, rfl⟩) fun vl s2 ⟨l, H2, I2, pl, el, e2⟩ => ?_)
  subst el e2
  refine thn (po_none.run pins s2 σ H2 (fun o H3 => o = none ∧ H3 = H2) I2 ⟨rfl, rfl⟩) fun vu s3 ⟨u, H3, I3, pu, eu, e3⟩ => ?_
  subst eu e3
  refine thn (hst.run pins s3 σ H3 (fun o H4 => o = some (-1) ∧ H4 = H3) I3 ⟨1, rfl, -1, rfl, rfl, rfl⟩) fun vs s4 ⟨o, H4, I4, ps, eo, e4⟩ => ?_
  subst eo e4
  have I5 : Inv X pins σ H4 { s4 with heap := s4.heap.push { cls := .type "slice", data := .fields #[vl, vu, vs] } } := I4.kept (t' := s4.toks) fun b ob q => Heap.get?_push_of_some _ q
  show wpAny (model X.prog X.w) X.A (subscriptTail e (.Slice none none (some (.UnaryOp .USub (.Constant (.int 1) k p1) p2)) p3) (.ref a) (.ref s4.heap.objs.size)) (EP X pins σ Q) X.xe { s4 with heap := s4.heap.push { cls := .type "slice", data := .fields #[vl, vu, vs] } }
  rcases q with ⟨hx, q⟩ | ⟨hx, q⟩
  · obtain ⟨its, r, ht, hz⟩ := I5.list hx
    have hlen := r.length
    refine tail_any (ops := [.ref a, .ref s4.heap.objs.size]) ht.isList.typeIs (PySem.slot_list_getitem.lookup) ?_ (by with_unfolding_all rfl)
    refine wpAny_getItem_list_slice ht.isList (Heap.IsSliceOf.new _ vl vu vs) pl pu ps (by decide) ?_ (by rw [List.size_toArray]; omega)
    rw [PySem.W.krv_pick]
    refine ⟨.ref _, _, I5.laid (t' := s4.toks) (o := .lst xs.reverse) (fun b ob q => Heap.get?_push_of_some _ q) (Nat.le_refl _) ?_, rfl, q _ (I5.hok.fresh (Nat.le_refl _))⟩
    exact ⟨by rw [List.length_reverse]; exact hz, _, 0, r.reverse, Heap.get?_push_size _ rfl⟩
  · obtain ⟨its, r, ht, hz⟩ := I5.tuple hx
    have hlen := r.length
    refine tail_any (ops := [.ref a, .ref s4.heap.objs.size]) ht.typeIs (PyProof.Rows.slot_tuple_getitem.lookup) ?_ (by with_unfolding_all rfl)
    refine getItem_tuple_rev ht (Heap.IsSliceOf.new _ vl vu vs) pl pu ps ?_ (by rw [List.size_toArray]; omega)
    refine ⟨.ref _, _, I5.laid (t' := s4.toks) (o := .tup xs.reverse) (fun b ob q => Heap.get?_push_of_some _ q) (Nat.le_refl _) ?_, rfl, q _ (I5.hok.fresh (Nat.le_refl _))⟩
    exact ⟨by rw [List.length_reverse]; exact hz, _, r.reverse, IsTup.new _ _⟩
theorem e_rev {ma : ME} {e : Expr} (h : PE X e (tRevA X.K (rd X.K ma))) : PE X e (rd X.K fun ρ C P => ma ρ C fun x ρ1 C1 => revR x fun d => P d ρ1 C1) := pe_weak h fun σ H Q ⟨B, F, ρ, C, P, R, m, k⟩ =>
  ⟨B, F, ρ, C, _, R, m, fun x ρ1 C1 F1 v1 H1 s1 R1 r1 q1 => by
    unfold revR at q1
    split at q1
    · obtain ⟨a, xs, rfl, ha, ra⟩ := r1.lst_inv
      refine ⟨a, xs, rfl, .inl ⟨.of (R1.ce.fh _ _ ha), fun p hp => ?_⟩⟩
      have g := Grow.new (o := HO.lst xs.reverse) R1.ce.fh hp
      exact k _ ρ1 C1 _ _ _ (s1.trans g.ff) (R1.grow g) (.lst upd_same (ra.reverse.mono g.ff)) q1
    · obtain ⟨a, xs, rfl, ha, ra⟩ := r1.tup_inv
      refine ⟨a, xs, rfl, .inr ⟨sqT_same R1.ce.fh ha, fun p hp => ?_⟩⟩
      have g := Grow.new (o := HO.tup xs.reverse) R1.ce.fh hp
      exact k _ ρ1 C1 _ _ _ (s1.trans g.ff) (R1.grow g) (.tup (SqT.of upd_same) (ra.reverse.mono g.ff)) q1
    · exact q1.elim⟩
/-- own lists -/
theorem varO_inv {ρ : Rho} {i : Nat} {f : List D → Prop} (h : varO ρ i f) : ∃ xs, ρ[i]? = some (some (Dv.own xs)) ∧ f xs := by
  unfold varO at h
  split at h
  · exact ⟨_, by assumption, h⟩
  · exact h.elim
theorem varL_rel {K : PySem.W.Frag} {B : Base} {F : Hp} {σ : L2.St} {H : Hp} {ρ : Rho} {C : CM} {i : Nat} {f : List D → Prop} (R : Rel K B F σ H ρ C) (h : varL ρ C i f) : ∃ a vs xs, σ[i]? = some (some (V.ref a)) ∧ H a = some (HO.lst vs) ∧ Reps K F vs xs ∧ f xs := by
  unfold varL at h
  split at h
  · obtain ⟨a, vs, e1, hl, ra, _⟩ := R.own i _ (by assumption)
    exact ⟨a, vs, _, e1, hl, ra, h⟩
  · obtain ⟨xs, hc, h⟩ := h
    obtain ⟨v, e1, r⟩ := R.dat i _ (by assumption)
    cases r
    obtain ⟨vs, hl, ra⟩ := (R.ce.cel _ _ hc).1
    exact ⟨_, vs, xs, e1, hl, ra, h⟩
  · exact h.elim
theorem e_oix {i : Nat} {mb : ME} {e : Expr} (h : PE X e (tOp (rIxL X.K) (tVar i) (rd X.K mb))) :
    PE X e (rd X.K fun ρ C P => varO ρ i fun xs => mb ρ C fun y ρ1 C1 => ρ1 = ρ ∧ itemR C1 (.lst xs) y fun d => P d ρ1 C1) := pe_weak h fun σ H Q ⟨B, F, ρ, C, P, R, m, k⟩ => by
  obtain ⟨xs, hx, m⟩ := varO_inv m
  obtain ⟨a0, vs0, e0, _⟩ := R.own i xs hx
  refine ⟨_, e0, B, F, ρ, C, _, R, m, fun y ρ1 C1 F1 v1 H1 s1 R1 r1 ⟨eq, q1⟩ => ?_⟩
  subst eq
  obtain ⟨a, vs, e1, hl, ra, _⟩ := R1.own i xs hx
  rw [e0] at e1
  cases e1
  cases y with
  | int i' =>
    cases r1
    obtain ⟨d, hd, p⟩ := q1
    obtain ⟨w, hw, rw'⟩ := atI_getD ra hd
    exact ⟨a0, vs, _, w, rfl, rfl, .of hl, hw, k d _ C1 F1 w H1 s1 R1 rw' p⟩
  | _ => exact False.elim q1
theorem e_olen {i : Nat} {e : Expr} (h : PE X e (tCB (fun xs H Q => ∃ p ys, xs = [.ref p] ∧ (SqL X.K H p ys ∨ SqT X.K H p ys) ∧ Q (.int ys.length) H) (tCons (tVar i) tNil))) :
    PE X e (rd X.K fun ρ C P => varO ρ i fun xs => P (.int xs.length) ρ C) := pe_weak h fun σ H Q ⟨B, F, ρ, C, P, R, m, k⟩ => by
  obtain ⟨xs, hx, m⟩ := varO_inv m
  obtain ⟨a, vs, e1, hl, ra, _⟩ := R.own i xs hx
  rw [← ra.length] at m
  exact ⟨_, e1, a, vs, rfl, .inl (.of hl), k _ ρ C F _ H (Same.refl _) R (.int _) m⟩
theorem eqv_nil : ∀ xs : List D, PyData.eqv (.list (D.pys xs)) (.list (D.pys [])) = xs.isEmpty
  | [] => rfl
  | _ :: _ => rfl
theorem e_one {i : Nat} {e : Expr} (h : PE X e (tOp (rNeD X.K) (tVar i) (tLst tNil))) :
    PE X e (rd X.K fun ρ C P => varL ρ C i fun xs => (D.lst xs).Cmp ∧ P (.bl (!xs.isEmpty)) ρ C) := pe_weak h fun σ H Q ⟨B, F, ρ, C, P, R, m, k⟩ => by
  obtain ⟨a, vs, xs, e1, hl, ra, ⟨p1, p2⟩, m⟩ := varL_rel R m
  refine ⟨_, e1, Nat.zero_le _, fun p hp => ?_⟩
  have hs := same_upd (o := HO.lst []) hp
  have R2 := (rel_fresh (vs := []) R hp).1
  refine ⟨_, _, .lst (.of (hs _ _ hl)) (reps_dp ((ra.mono R.ce.fh).mono hs) p1), .lst (.of upd_same) .nil, p2, by decide +kernel, ?_⟩
  have e : (!PyData.eqv (.list (D.pys xs)) (.list [])) = !xs.isEmpty := by rw [← eqv_nil xs]; rfl
  rw [e]
  exact k _ ρ C F _ _ (Same.refl _) R2 (.bl _) m
theorem e_oem {i : Nat} {e : Expr} (h : PE X e (tOp (rEqD X.K) (tVar i) (tLst tNil))) :
    PE X e (rd X.K fun ρ C P => varL ρ C i fun xs => (D.lst xs).Cmp ∧ P (.bl xs.isEmpty) ρ C) := pe_weak h fun σ H Q ⟨B, F, ρ, C, P, R, m, k⟩ => by
  obtain ⟨a, vs, xs, e1, hl, ra, ⟨p1, p2⟩, m⟩ := varL_rel R m
  refine ⟨_, e1, Nat.zero_le _, fun p hp => ?_⟩
  have hs := same_upd (o := HO.lst []) hp
  have R2 := (rel_fresh (vs := []) R hp).1
  refine ⟨_, _, .lst (.of (hs _ _ hl)) (reps_dp ((ra.mono R.ce.fh).mono hs) p1), .lst (.of upd_same) .nil, p2, by decide +kernel, ?_⟩
  have e : PyData.eqv (.list (D.pys xs)) (.list []) = xs.isEmpty := by rw [← eqv_nil xs]; rfl
  rw [e]
  exact k _ ρ C F _ _ (Same.refl _) R2 (.bl _) m
theorem lstD_rel {K : PySem.W.Frag} {F H : Hp} {C : CM} {v : V} {d : D} {xs : List D} (ce : Cells K F H C) (r : Rep K F v d) (h : lstD C d = some xs) : ∃ a vs, v = .ref a ∧ H a = some (HO.lst vs) ∧ Reps K F vs xs := by
  unfold lstD at h
  split at h
  · cases h
    obtain ⟨a, vs, rfl, ha, ra⟩ := r.lst_inv
    exact ⟨a, vs, rfl, ce.fh _ _ ha, ra⟩
  · unfold cellL at h
    split at h
    · rename_i hc
      cases h
      cases r
      obtain ⟨vs, hl, ra⟩ := (ce.cel _ _ hc).1
      exact ⟨_, vs, rfl, hl, ra⟩
    · cases h
  · cases h
theorem e_cne {ma : ME} {e : Expr} (h : PE X e (tOp (rNeD X.K) (rd X.K ma) (tLst tNil))) :
    PE X e (rd X.K fun ρ C P => ma ρ C fun x ρ1 C1 => ∃ xs, lstD C1 x = some xs ∧ (D.lst xs).Cmp ∧ P (.bl (!xs.isEmpty)) ρ1 C1) := pe_weak h fun σ H Q ⟨B, F, ρ, C, P, R, m, k⟩ =>
  ⟨B, F, ρ, C, _, R, m, fun x ρ1 C1 F1 v1 H1 s1 R1 r1 ⟨xs, hx, ⟨p1, p2⟩, q⟩ => by
    obtain ⟨a, vs, rfl, hl, ra⟩ := lstD_rel R1.ce r1 hx
    refine ⟨Nat.zero_le _, fun p hp => ?_⟩
    have hs := same_upd (o := HO.lst []) hp
    have R2 := (rel_fresh (vs := []) R1 hp).1
    refine ⟨_, _, .lst (.of (hs _ _ hl)) (reps_dp ((ra.mono R1.ce.fh).mono hs) p1), .lst (.of upd_same) .nil, p2, by decide +kernel, ?_⟩
    have e : (!PyData.eqv (.list (D.pys xs)) (.list [])) = !xs.isEmpty := by rw [← eqv_nil xs]; rfl
    rw [e]
    exact k _ ρ1 C1 F1 _ _ s1 R2 (.bl _) q⟩
theorem e_ceq {ma : ME} {e : Expr} (h : PE X e (tOp (rEqD X.K) (rd X.K ma) (tLst tNil))) :
    PE X e (rd X.K fun ρ C P => ma ρ C fun x ρ1 C1 => ∃ xs, lstD C1 x = some xs ∧ (D.lst xs).Cmp ∧ P (.bl xs.isEmpty) ρ1 C1) := pe_weak h fun σ H Q ⟨B, F, ρ, C, P, R, m, k⟩ =>
  ⟨B, F, ρ, C, _, R, m, fun x ρ1 C1 F1 v1 H1 s1 R1 r1 ⟨xs, hx, ⟨p1, p2⟩, q⟩ => by
    obtain ⟨a, vs, rfl, hl, ra⟩ := lstD_rel R1.ce r1 hx
    refine ⟨Nat.zero_le _, fun p hp => ?_⟩
    have hs := same_upd (o := HO.lst []) hp
    have R2 := (rel_fresh (vs := []) R1 hp).1
    refine ⟨_, _, .lst (.of (hs _ _ hl)) (reps_dp ((ra.mono R1.ce.fh).mono hs) p1), .lst (.of upd_same) .nil, p2, by decide +kernel, ?_⟩
    have e : PyData.eqv (.list (D.pys xs)) (.list []) = xs.isEmpty := by rw [← eqv_nil xs]; rfl
    rw [e]
    exact k _ ρ1 C1 F1 _ _ s1 R2 (.bl _) q⟩
theorem l_lrv {ma : ME} {e : Expr} (h : PE X e (tRevL X.K (rd X.K ma))) : PE X e (rdL X.K fun ρ C P => ma ρ C fun x ρ1 C1 => ∃ xs, lstD C1 x = some xs ∧ P xs.reverse ρ1 C1) := pe_weak h fun σ H Q ⟨B, F, ρ, C, P, R, m, k⟩ =>
  ⟨B, F, ρ, C, _, R, m, fun x ρ1 C1 F1 v1 H1 s1 R1 r1 ⟨xs, hx, q⟩ => by
    obtain ⟨a, vs, rfl, hl, ra⟩ := lstD_rel R1.ce r1 hx
    refine ⟨a, vs, rfl, .of hl, fun p hp => ?_⟩
    obtain ⟨R2, f1, f2, f3, f4⟩ := rel_fresh (vs := vs.reverse) R1 hp
    exact k _ ρ1 C1 F1 p vs.reverse _ s1 R2 upd_same ra.reverse f1 f2 f3 f4 q⟩
theorem l_rvd {ma : ME} {e : Expr} (h : PE X e (N1.tLstRev X.K (rd X.K ma))) : PE X e (rdL X.K fun ρ C P => ma ρ C fun x ρ1 C1 => ∃ xs, lstD C1 x = some xs ∧ P xs.reverse ρ1 C1) := pe_weak h fun σ H Q ⟨B, F, ρ, C, P, R, m, k⟩ =>
  ⟨B, F, ρ, C, _, R, m, fun x ρ1 C1 F1 v1 H1 s1 R1 r1 ⟨xs, hx, q⟩ => by
    obtain ⟨a, vs, rfl, hl, ra⟩ := lstD_rel R1.ce r1 hx
    refine ⟨a, vs, rfl, .of hl, fun p hp => ?_⟩
    obtain ⟨R2, f1, f2, f3, f4⟩ := rel_fresh (vs := vs.reverse) R1 hp
    exact k _ ρ1 C1 F1 p vs.reverse _ s1 R2 upd_same ra.reverse f1 f2 f3 f4 q⟩
theorem l_cat {ma mb : ME} {e : Expr} (h : PE X e (tOp rCat (rd X.K ma) (rd X.K mb))) : PE X e (rdL X.K fun ρ C P => ma ρ C fun x ρ1 C1 => mb ρ1 C1 fun y ρ2 C2 => ∃ xs ys, lstD C2 x = some xs ∧ lstD C2 y = some ys ∧ xs.length + ys.length ≤ sizeLine ∧ P (xs ++ ys) ρ2 C2) := pe_weak h fun σ H Q ⟨B, F, ρ, C, P, R, m, k⟩ =>
  ⟨B, F, ρ, C, _, R, m, fun x ρ1 C1 F1 v1 H1 s1 R1 r1 q1 => ⟨B, F1, ρ1, C1, _, R1, q1, fun y ρ2 C2 F2 v2 H2 s2 R2 r2 ⟨xs, ys, hx, hy, hz, q⟩ => by
    obtain ⟨a, vs, rfl, hl, ra⟩ := lstD_rel R2.ce (r1.mono s2) hx
    obtain ⟨b, ws, rfl, hl2, rb⟩ := lstD_rel R2.ce r2 hy
    refine ⟨a, b, vs, ws, rfl, rfl, hl, hl2, by rw [ra.length, rb.length]; exact hz, fun p hp => ?_⟩
    obtain ⟨R3, f1, f2, f3, f4⟩ := rel_fresh (vs := vs ++ ws) R2 hp
    exact k _ ρ2 C2 F2 p (vs ++ ws) _ (s1.trans s2) R3 upd_same (ra.append rb) f1 f2 f3 f4 q⟩⟩
theorem l_cato {ma : ME} {i : Nat} {e : Expr} (h : PE X e (tOp rCat (rd X.K ma) (tVar i))) : PE X e (rdL X.K fun ρ C P => ma ρ C fun x ρ1 C1 => varO ρ1 i fun ys => ∃ xs, lstD C1 x = some xs ∧ xs.length + ys.length ≤ sizeLine ∧ P (xs ++ ys) ρ1 C1) := pe_weak h fun σ H Q ⟨B, F, ρ, C, P, R, m, k⟩ =>
  ⟨B, F, ρ, C, _, R, m, fun x ρ1 C1 F1 v1 H1 s1 R1 r1 q1 => by
    obtain ⟨ys, hy0, xs, hx, hz, q⟩ := varO_inv q1
    obtain ⟨a, vs, rfl, hl, ra⟩ := lstD_rel R1.ce r1 hx
    obtain ⟨b, ws, e1, hl2, rb, _⟩ := R1.own i ys hy0
    refine ⟨_, e1, a, b, vs, ws, rfl, rfl, hl, hl2, by rw [ra.length, rb.length]; exact hz, fun p hp => ?_⟩
    obtain ⟨R3, f1, f2, f3, f4⟩ := rel_fresh (vs := vs ++ ws) R1 hp
    exact k _ ρ1 C1 F1 p (vs ++ ws) _ s1 R3 upd_same (ra.append rb) f1 f2 f3 f4 q⟩
theorem reps_rg (K : PySem.W.Frag) (F : Hp) (a b : Int) : Reps K F (rgV a b) (rangeD a 1 (b - a).toNat) := by
  unfold rgV rangeD
  have key : ∀ l : List Nat, Reps K F (l.map fun i => V.int (a + (i : Nat))) (l.map fun i => D.int (a + (i : Nat) * 1)) := by
    intro l
    induction l with
    | nil => exact .nil
    | cons i l ih =>
      refine .cons ?_ ih
      show Rep K F (V.int (a + (i : Nat))) (D.int (a + (i : Nat) * 1))
      rw [Int.mul_one]
      exact .int _
  exact key _
theorem l_lrg1 {ma : ME} {e : Expr} (h : PE X e (tLstRg (tRg1 (rd X.K ma)))) : PE X e (rdL X.K fun ρ C P => ma ρ C fun x ρ1 C1 => match x with
    | .int j => RgOk 0 j ∧ P (rangeD 0 1 (j - 0).toNat) ρ1 C1 | _ => False) := pe_weak h fun σ H Q ⟨B, F, ρ, C, P, R, m, k⟩ =>
  ⟨B, F, ρ, C, _, R, m, fun x ρ1 C1 F1 v1 H1 s1 R1 r1 q1 => by
    try dsimp only at q1
    split at q1
    · cases r1
      refine ⟨_, rfl, q1.1, fun p hp => ?_⟩
      obtain ⟨R2, f1, f2, f3, f4⟩ := rel_fresh R1 hp
      exact k _ ρ1 C1 F1 p _ _ s1 R2 upd_same (reps_rg _ _ _ _) f1 f2 f3 f4 q1.2
    · exact q1.elim⟩
theorem e_trg1 {ma : ME} {e : Expr} (h : PE X e (tTupRg (tRg1 (rd X.K ma)))) : PE X e (rd X.K fun ρ C P => ma ρ C fun x ρ1 C1 => match x with
    | .int j => RgOk 0 j ∧ P (.tup (rangeD 0 1 (j - 0).toNat)) ρ1 C1 | _ => False) := pe_weak h fun σ H Q ⟨B, F, ρ, C, P, R, m, k⟩ =>
  ⟨B, F, ρ, C, _, R, m, fun x ρ1 C1 F1 v1 H1 s1 R1 r1 q1 => by
    try dsimp only at q1
    split at q1
    · cases r1
      refine ⟨_, rfl, q1.1, fun p hp => ?_⟩
      exact k _ ρ1 C1 _ _ _ (s1.trans (Grow.new R1.ce.fh hp).ff) (R1.grow (Grow.new R1.ce.fh hp)) (.tup (SqT.of upd_same) (reps_rg _ _ _ _)) q1.2
    · exact q1.elim⟩
theorem l_lrg2 {ma mb : ME} {e : Expr} (h : PE X e (tLstRg (tRg2 (rd X.K ma) (rd X.K mb)))) : PE X e (rdL X.K fun ρ C P => ma ρ C fun x ρ1 C1 => mb ρ1 C1 fun y ρ2 C2 => match x, y with
    | .int i, .int j => RgOk i j ∧ P (rangeD i 1 (j - i).toNat) ρ2 C2 | _, _ => False) := pe_weak h fun σ H Q ⟨B, F, ρ, C, P, R, m, k⟩ =>
  ⟨B, F, ρ, C, _, R, m, fun x ρ1 C1 F1 v1 H1 s1 R1 r1 q1 => ⟨B, F1, ρ1, C1, _, R1, q1, fun y ρ2 C2 F2 v2 H2 s2 R2 r2 q2 => by
    try dsimp only at q2
    split at q2
    · cases r1; cases r2
      refine ⟨_, _, rfl, rfl, q2.1, fun p hp => ?_⟩
      obtain ⟨R3, f1, f2, f3, f4⟩ := rel_fresh R2 hp
      exact k _ ρ2 C2 F2 p _ _ (s1.trans s2) R3 upd_same (reps_rg _ _ _ _) f1 f2 f3 f4 q2.2
    · exact q2.elim⟩⟩
theorem dropLast_take {α : Type} (xs : List α) : xs.dropLast = xs.take (xs.length - 1) := List.dropLast_eq_take
theorem Reps.dropLast {K : PySem.W.Frag} {F : Hp} {vs : List V} {ds : List D} (r : Reps K F vs ds) : Reps K F vs.dropLast ds.dropLast := by
  rw [List.dropLast_eq_take, List.dropLast_eq_take, r.length]; exact r.take _
theorem e_opop {i : Nat} {e : Expr} (h : PE X e (tBM0 X.K "list" rPop (tVar i))) :
    PE X e (rd X.K fun ρ C P => varO ρ i fun xs => ∃ y, xs[xs.length - 1]? = some y ∧ P y (ρ.set i (some (.own xs.dropLast))) C) := pe_weak h fun σ H Q ⟨B, F, ρ, C, P, R, m, k⟩ => by
  obtain ⟨xs, hx, y, hy, m⟩ := varO_inv m
  obtain ⟨a, vs, e1, hl, ra, _⟩ := R.own i xs hx
  obtain ⟨v, hv, rv⟩ := ra.getD hy
  refine ⟨_, e1, .inl ⟨rfl, vs, .of hl⟩, a, vs, v, rfl, rfl, hl, by rw [ra.length]; exact hv, ?_⟩
  exact k _ _ C F _ _ (Same.refl _) (R.mutOwn hx e1 ra.dropLast) rv m
theorem Reps.eraseIdx {K : PySem.W.Frag} {F : Hp} : ∀ {vs : List V} {ds : List D} (i : Nat), Reps K F vs ds → Reps K F (vs.eraseIdx i) (ds.eraseIdx i)
  | _, _, _, .nil => .nil
  | _, _, 0, .cons _ t => t
  | _, _, i + 1, .cons r t => .cons r (Reps.eraseIdx i t)
theorem e_cpop {ma : ME} {e : Expr} (h : PE X e (tBM0 X.K "list" rPop (rd X.K ma))) :
    PE X e (rd X.K fun ρ C P => ma ρ C fun x ρ1 C1 => match x with
      | .ref a => ∃ xs y, C1 a = some (.lst xs) ∧ xs[xs.length - 1]? = some y ∧ P y ρ1 (fun b => if b = a then some (.lst xs.dropLast) else C1 b)
      | _ => False) := pe_weak h fun σ H Q ⟨B, F, ρ, C, P, R, m, k⟩ =>
  ⟨B, F, ρ, C, _, R, m, fun x ρ1 C1 F1 v1 H1 s1 R1 r1 q1 => by
    try dsimp only at q1
    split at q1
    · cases r1
      obtain ⟨xs, y, hc, hy, q1⟩ := q1
      obtain ⟨vs, hl, ra⟩ := (R1.ce.cel _ _ hc).1
      obtain ⟨v, hv, rv⟩ := ra.getD hy
      refine ⟨.inl ⟨rfl, vs, .of hl⟩, _, vs, v, rfl, rfl, hl, by rw [ra.length]; exact hv, ?_⟩
      exact k _ ρ1 _ F1 _ _ s1 (R1.mutCell (c' := .lst xs.dropLast) hc ⟨_, upd_same, ra.dropLast⟩) rv q1
    · exact q1.elim⟩
theorem e_cpopA {ma mb : ME} {e : Expr} (h : PE X e (tBM X.K "list" rPopAt (rd X.K ma) (tCons (rd X.K mb) tNil))) :
    PE X e (rd X.K fun ρ C P => ma ρ C fun x ρ1 C1 => match x with
    | .ref a => ∃ xs0, C1 a = some (.lst xs0) ∧ mb ρ1 C1 fun y ρ2 C2 => match y with
      | .int i => ∃ xs j y, C2 a = some (.lst xs) ∧ -(2 ^ 63) ≤ i ∧ i < 2 ^ 63 ∧ seqIndex? i xs.length = some j ∧ xs[j]? = some y ∧ P y ρ2 (fun b => if b = a then some (.lst (xs.eraseIdx j)) else C2 b)
      | _ => False
    | _ => False) := pe_weak h fun σ H Q ⟨B, F, ρ, C, P, R, m, k⟩ =>
  ⟨B, F, ρ, C, _, R, m, fun x ρ1 C1 F1 v1 H1 s1 R1 r1 q1 => by
    try dsimp only at q1
    split at q1
    · cases r1
      obtain ⟨xs0, hc0, q1⟩ := q1
      obtain ⟨vs0, hl0, _⟩ := (R1.ce.cel _ _ hc0).1
      refine ⟨.inl ⟨rfl, vs0, .of hl0⟩, B, F1, ρ1, C1, _, R1, q1, fun y ρ2 C2 F2 v2 H2 s2 R2 r2 q2 => ?_⟩
      try dsimp only at q2
      split at q2
      · cases r2
        obtain ⟨xs, j, y, hc, h1, h2, hj, hy, q2⟩ := q2
        obtain ⟨vs, hl, ra⟩ := (R2.ce.cel _ _ hc).1
        obtain ⟨v, hv, rv⟩ := ra.getD hy
        refine ⟨_, vs, _, j, v, rfl, rfl, hl, h1, h2, by rw [ra.length]; exact hj, hv, ?_⟩
        exact k _ ρ2 _ F2 _ _ (s1.trans s2) (R2.mutCell (c' := .lst (xs.eraseIdx j)) hc ⟨_, upd_same, ra.eraseIdx j⟩) rv q2
      · exact q2.elim
    · exact q1.elim⟩
theorem pys_getD {ds : List D} {j : Nat} {z : PyData} (h : (D.pys ds)[j]? = some z) : ∃ d, ds[j]? = some d ∧ z = d.py := by
  induction ds generalizing j with
  | nil => simp [D.pys] at h
  | cons x xs ih =>
    cases j with
    | zero => simp [D.pys] at h; exact ⟨x, rfl, h.symm⟩
    | succ j => simp [D.pys] at h; exact ih h
theorem pys_get {ds : List D} {j : Nat} {d : D} (h : ds[j]? = some d) : (D.pys ds)[j]? = some d.py := by
  induction ds generalizing j with
  | nil => simp at h
  | cons x xs ih =>
    cases j with
    | zero => simp at h; subst h; rfl
    | succ j => simp [D.pys]; exact ih h
theorem firstAt_spec {d : D} : ∀ {ds : List D} {j : Nat}, firstAt d ds = some j → (∃ z, ds[j]? = some z ∧ z.eqv d = true) ∧ ∀ (m : Nat) z, m < j → ds[m]? = some z → z.eqv d = false
  | [], _, h => by cases h
  | x :: xs, j, h => by
    unfold firstAt at h
    split at h
    · rename_i q
      cases h
      exact ⟨⟨x, rfl, q⟩, fun m z hm => absurd hm (Nat.not_lt_zero m)⟩
    · rename_i q
      cases e : firstAt d xs with
      | none => rw [e] at h; cases h
      | some i =>
        rw [e] at h
        cases h
        obtain ⟨⟨z, hz, hq⟩, hm⟩ := firstAt_spec e
        refine ⟨⟨z, by simpa using hz, hq⟩, fun m z hmi hz => ?_⟩
        cases m with
        | zero => simp at hz; subst hz; exact Bool.eq_false_iff.mpr q
        | succ m => exact hm m z (Nat.lt_of_succ_lt_succ hmi) (by simpa using hz)
theorem e_indx (hr : Room 0 X.A) {ma mb : ME} {e : Expr} (h : PE X e (tBM X.K "list" (rIndexD X.K) (rd X.K ma) (tCons (rd X.K mb) tNil))) :
    PE X e (rd X.K fun ρ C P => ma ρ C fun x ρ1 C1 => match x with
    | .lst xs => mb ρ1 C1 fun y ρ2 C2 => (D.lst xs).Cmp ∧ y.Cmp ∧ ∃ j, firstAt y xs = some j ∧ P (.int (j : Nat)) ρ2 C2
    | _ => False) := pe_weak h fun σ H Q ⟨B, F, ρ, C, P, R, m, k⟩ =>
  ⟨B, F, ρ, C, _, R, m, fun x ρ1 C1 F1 v1 H1 s1 R1 r1 q1 => by
    try dsimp only at q1
    split at q1
    · obtain ⟨a, vs, rfl, ha, ra⟩ := r1.lst_inv
      refine ⟨.inl ⟨rfl, vs, .of (R1.ce.fh _ _ ha)⟩, B, F1, ρ1, C1, _, R1, q1, fun y ρ2 C2 F2 v2 H2 s2 R2 r2 ⟨p1, p2, j, hj, q2⟩ => ?_⟩
      obtain ⟨⟨z, hz, hq⟩, hm⟩ := firstAt_spec hj
      have rl := (Rep.lst (s2 _ _ ha) (ra.mono s2)).mono R2.ce.fh
      refine ⟨a, v2, _, _, j, _, rfl, rfl, rep_dp rl p1.1, rep_dp (r2.mono R2.ce.fh) p2.1, p1.2, p2.2, pys_get hz, hq, fun m z' hm' hz' => ?_, k _ ρ2 C2 F2 _ H2 (s1.trans s2) R2 (.int _) q2⟩
      obtain ⟨d, hd, rfl⟩ := pys_getD hz'
      exact hm m d hm' hd
    · exact q1.elim⟩
end
end M61

set_option Elab.async false
set_option linter.all false
set_option autoImplicit false
set_option maxRecDepth 100000
/-! M4d: what is walked, targets, comprehensions. -/
namespace M61
open PySem PySem.Spec PyProof.Rows L2
section
variable {X : Cx}
theorem i_seq {tg : Expr} {ma : ME} {e : Expr} (h : PI X tg e (iSeq X.K (rd X.K ma))) : PI X tg e (rdI X.K fun ρ C P => ma ρ C fun x ρ1 C1 => match x with
    | .tup xs => P xs ρ1 C1 | .lst xs => P xs ρ1 C1 | _ => False) := pi_weak h fun σ H R ⟨B, F, ρ, C, P, Rl, m, k⟩ =>
  ⟨B, F, ρ, C, _, Rl, m, fun x ρ1 C1 F1 v1 H1 s1 R1 r1 q1 => by
    try dsimp only at q1
    split at q1
    · obtain ⟨a, vs, rfl, ha, ra⟩ := r1.tup_inv
      exact ⟨a, vs, rfl, .inr ⟨sqT_same R1.ce.fh ha, k _ ρ1 C1 F1 _ H1 s1 R1 (it_tup ha ra) q1⟩⟩
    · obtain ⟨a, vs, rfl, ha, ra⟩ := r1.lst_inv
      exact ⟨a, vs, rfl, .inl ⟨.of (R1.ce.fh _ _ ha), k _ ρ1 C1 F1 _ H1 s1 R1 (it_list (.of ha) ra) q1⟩⟩
    · exact q1.elim⟩
theorem it_str {K : PySem.W.Frag} {F : Hp} (z : Str) : IterOk K F (sgnD z) (Its z) :=
  ⟨_, _, by rw [show (sgnD z).length = z.cps.size by unfold sgnD; rw [List.length_map, Array.length_toList]]; exact walk_str, fun H s => trivial, fun i H F2 x H' hi s s2 y => by
    obtain ⟨e, c, hc, h⟩ := y
    subst e h
    exact ⟨F2, .str ⟨#[c]⟩, Grow.refl s2, by unfold sgnD; rw [List.getElem?_map, Array.getElem?_toList, hc]; rfl, .str _⟩⟩
theorem i_sgn {tg : Expr} {ma : ME} {e : Expr} (h : PI X tg e (iStr (rd X.K ma))) : PI X tg e (rdI X.K fun ρ C P => ma ρ C fun x ρ1 C1 => match x with
    | .str z => P (sgnD z) ρ1 C1 | _ => False) := pi_weak h fun σ H R ⟨B, F, ρ, C, P, Rl, m, k⟩ =>
  ⟨B, F, ρ, C, _, Rl, m, fun x ρ1 C1 F1 v1 H1 s1 R1 r1 q1 => by
    try dsimp only at q1
    split at q1
    · have e1 := r1.str_inv
      subst e1
      exact ⟨_, rfl, k _ ρ1 C1 F1 _ H1 s1 R1 (it_str _) q1⟩
    · exact q1.elim⟩
theorem i_enum {tg : Expr} {ma : ME} {e : Expr} (h : PI X tg e (iEnumA X.K (tCons (rd X.K ma) tNil))) : PI X tg e (rdI X.K fun ρ C P => ma ρ C fun x ρ1 C1 => match x with
    | .tup xs => P (enumD 0 xs) ρ1 C1 | .lst xs => P (enumD 0 xs) ρ1 C1 | _ => False) := pi_weak h fun σ H R ⟨B, F, ρ, C, P, Rl, m, k⟩ =>
  ⟨B, F, ρ, C, _, Rl, m, fun x ρ1 C1 F1 v1 H1 s1 R1 r1 q1 => by
    try dsimp only at q1
    split at q1
    · obtain ⟨a, vs, rfl, ha, ra⟩ := r1.tup_inv
      exact ⟨a, vs, rfl, .inr ⟨sqT_same R1.ce.fh ha, k _ ρ1 C1 F1 _ H1 s1 R1 (it_enumT ha ra) q1⟩⟩
    · obtain ⟨a, vs, rfl, ha, ra⟩ := r1.lst_inv
      exact ⟨a, vs, rfl, .inl ⟨.of (R1.ce.fh _ _ ha), k _ ρ1 C1 F1 _ H1 s1 R1 (it_enum (.of ha) ra) q1⟩⟩
    · exact q1.elim⟩
theorem i_rng1 {tg : Expr} {ma : ME} {e : Expr} (h : PI X tg e (iRng1 (tCons (rd X.K ma) tNil))) : PI X tg e (rdI X.K fun ρ C P => ma ρ C fun x ρ1 C1 => match x with
    | .int j => -(2 ^ 62) ≤ j ∧ j < 2 ^ 62 ∧ P (rangeD 0 1 j.toNat) ρ1 C1 | _ => False) := pi_weak h fun σ H R ⟨B, F, ρ, C, P, Rl, m, k⟩ =>
  ⟨B, F, ρ, C, _, Rl, m, fun x ρ1 C1 F1 v1 H1 s1 R1 r1 q1 => by
    try dsimp only at q1
    split at q1
    · cases r1
      exact ⟨_, rfl, q1.1, q1.2.1, k _ ρ1 C1 F1 _ H1 s1 R1 (it_range 0 _) q1.2.2⟩
    · exact q1.elim⟩
theorem i_rng2 {tg : Expr} {ma mb : ME} {e : Expr} (h : PI X tg e (iRng2 (tCons (rd X.K ma) (tCons (rd X.K mb) tNil)))) : PI X tg e (rdI X.K fun ρ C P => ma ρ C fun x ρ1 C1 => mb ρ1 C1 fun y ρ2 C2 => match x, y with
    | .int i, .int j => bnd i j ∧ P (rangeD i 1 (j - i).toNat) ρ2 C2 | _, _ => False) := pi_weak h fun σ H R ⟨B, F, ρ, C, P, Rl, m, k⟩ =>
  ⟨B, F, ρ, C, _, Rl, m, fun x ρ1 C1 F1 v1 H1 s1 R1 r1 q1 => ⟨B, F1, ρ1, C1, _, R1, q1, fun y ρ2 C2 F2 v2 H2 s2 R2 r2 q2 => by
    try dsimp only at q2
    split at q2
    · cases r1; cases r2
      exact ⟨_, _, rfl, q2.1, k _ ρ2 C2 F2 _ H2 (s1.trans s2) R2 (it_range _ _) q2.2⟩
    · exact q2.elim⟩⟩
theorem i_rng3 {tg : Expr} {ma mb mc : ME} {e : Expr} (h : PI X tg e (iRng3 (tCons (rd X.K ma) (tCons (rd X.K mb) (tCons (rd X.K mc) tNil))))) : PI X tg e (rdI X.K fun ρ C P => ma ρ C fun x ρ1 C1 => mb ρ1 C1 fun y ρ2 C2 => mc ρ2 C2 fun z ρ3 C3 => match x, y, z with
    | .int i, .int j, .int k => bnd i j ∧ k = -1 ∧ P (rangeD i k (i - j).toNat) ρ3 C3 | _, _, _ => False) := pi_weak h fun σ H R ⟨B, F, ρ, C, P, Rl, m, k⟩ =>
  ⟨B, F, ρ, C, _, Rl, m, fun x ρ1 C1 F1 v1 H1 s1 R1 r1 q1 => ⟨B, F1, ρ1, C1, _, R1, q1, fun y ρ2 C2 F2 v2 H2 s2 R2 r2 q2 => ⟨B, F2, ρ2, C2, _, R2, q2, fun z ρ3 C3 F3 v3 H3 s3 R3 r3 q3 => by
    try dsimp only at q3
    split at q3
    · cases r1; cases r2; cases r3
      obtain ⟨⟨b1, b2, b3, b4⟩, e, q3⟩ := q3
      subst e
      exact ⟨_, _, -1, _, rfl, RgC.neg b1 b2 b3 b4, k _ ρ3 C3 F3 _ H3 (s1.trans (s2.trans s3)) R3 (it_rangeC _ _ _) q3⟩
    · exact q3.elim⟩⟩⟩
/-- zip -/
theorem zipD_len : ∀ xs ys : List D, (zipD xs ys).length = min xs.length ys.length
  | [], _ => by simp [zipD]
  | _ :: _, [] => by simp [zipD]
  | x :: xs, y :: ys => by
    unfold zipD
    rw [List.length_cons, List.length_cons, List.length_cons, zipD_len xs ys]; omega
theorem zipD_get : ∀ (xs ys : List D) (i : Nat) (x y : D), xs[i]? = some x → ys[i]? = some y → (zipD xs ys)[i]? = some (.tup [x, y])
  | [], _, _, _, _, h, _ => by simp at h
  | _ :: _, [], _, _, _, _, h => by simp at h
  | a :: xs, b :: ys, 0, x, y, h, h2 => by simp at h h2; subst h h2; rfl
  | a :: xs, b :: ys, i + 1, x, y, h, h2 => by
    unfold zipD
    rw [List.getElem?_cons_succ] at h h2 ⊢
    exact zipD_get xs ys i x y h h2
theorem it_zipG {K : PySem.W.Frag} {F : Hp} {xs ys : List V} {ds es : List D} {J : It} {G : Hp → Prop} (r1 : Reps K F xs ds) (r2 : Reps K F ys es) (w : Walk J (zipD ds es).length G (YPair (fun i => xs[i]?) (fun i => ys[i]?))) (g : ∀ H, Same F H → G H) : IterOk K F (zipD ds es) J :=
  ⟨G, _, w, g, fun i H F2 x H' hi s s2 y => it_pair (n := (zipD ds es).length) (fun i u v F2 hi h1 h2 s => by
    obtain ⟨d, hd, rd⟩ := r1.get h1
    obtain ⟨e, he, re⟩ := r2.get h2
    exact ⟨d, e, rd.mono s, re.mono s, zipD_get _ _ _ _ _ hd he⟩) hi s s2 y⟩
theorem it_rev {K : PySem.W.Frag} {F : Hp} {xs : List V} {ds : List D} {J : It} {G : Hp → Prop} (r : Reps K F xs ds) (w : Walk J ds.reverse.length G (fun i H x H' => H' = H ∧ xs[xs.length - 1 - i]? = some x)) (g : ∀ H, Same F H → G H) : IterOk K F ds.reverse J :=
  ⟨G, _, w, g, fun i H F2 x H' hi s s2 ⟨e, hx⟩ => by
    subst e
    obtain ⟨d, hd, rd⟩ := r.get hx
    refine ⟨F2, d, Grow.refl s2, ?_, rd.mono s⟩
    rw [List.length_reverse] at hi
    rw [List.getElem?_reverse (by omega), ← r.length]
    exact hd⟩
theorem walk_revT {K : PySem.W.Frag} {a : Addr} {xs : List V} : Walk (RT.ItvT K a xs.length) xs.length (fun H => SqT K H a xs) (fun i H x H' => H' = H ∧ xs[xs.length - 1 - i]? = some x) :=
  ⟨fun i _ hi q => ⟨hi, xs, xs[xs.length - 1 - i]'(by omega), q, by simp [show xs.length - 1 - i < xs.length by omega]⟩, fun _ _ => Nat.le_refl _, fun _ _ _ _ _ q y => ⟨y.1, y.2 xs q⟩⟩
theorem i_rvs {tg : Expr} {ma : ME} {e : Expr} (h : PI X tg e (RT.iRevA X.K (rd X.K ma))) : PI X tg e (rdI X.K fun ρ C P => ma ρ C fun x ρ1 C1 => match x with
    | .tup xs => P xs.reverse ρ1 C1 | .lst xs => P xs.reverse ρ1 C1 | _ => False) := pi_weak h fun σ H R ⟨B, F, ρ, C, P, Rl, m, k⟩ =>
  ⟨B, F, ρ, C, _, Rl, m, fun x ρ1 C1 F1 v1 H1 s1 R1 r1 q1 => by
    try dsimp only at q1
    split at q1
    · obtain ⟨a, vs, rfl, ha, ra⟩ := r1.tup_inv
      exact ⟨a, vs, rfl, .inr ⟨sqT_same R1.ce.fh ha, k _ ρ1 C1 F1 _ H1 s1 R1 (it_rev ra (by rw [List.length_reverse, ← ra.length]; exact walk_revT) fun H s => sqT_same s ha) q1⟩⟩
    · obtain ⟨a, vs, rfl, ha, ra⟩ := r1.lst_inv
      exact ⟨a, vs, rfl, .inl ⟨.of (R1.ce.fh _ _ ha), k _ ρ1 C1 F1 _ H1 s1 R1 (it_rev ra (by rw [List.length_reverse, ← ra.length]; exact walk_rev) fun H s => SqL.of (s _ _ ha)) q1⟩⟩
    · exact q1.elim⟩
theorem i_rvr {tg : Expr} {ma mb : ME} {e : Expr} (h : PI X tg e (iRevR (tRg2 (rd X.K ma) (rd X.K mb)))) : PI X tg e (rdI X.K fun ρ C P => ma ρ C fun x ρ1 C1 => mb ρ1 C1 fun y ρ2 C2 => match x, y with
    | .int i, .int j => bnd i j ∧ P (rangeD (i + (((j - i).toNat : Nat) : Int) - 1) (-1) (j - i).toNat) ρ2 C2 | _, _ => False) := pi_weak h fun σ H R ⟨B, F, ρ, C, P, Rl, m, k⟩ =>
  ⟨B, F, ρ, C, _, Rl, m, fun x ρ1 C1 F1 v1 H1 s1 R1 r1 q1 => ⟨B, F1, ρ1, C1, _, R1, q1, fun y ρ2 C2 F2 v2 H2 s2 R2 r2 q2 => by
    try dsimp only at q2
    split at q2
    · cases r1; cases r2
      obtain ⟨⟨b1, b2, b3, b4⟩, q2⟩ := q2
      exact ⟨_, _, rfl, rfl, b1, b2, b3, b4, k _ ρ2 C2 F2 _ H2 (s1.trans s2) R2 (it_rangeC _ _ _) q2⟩
    · exact q2.elim⟩⟩

theorem i_rvr1 {tg : Expr} {ma : ME} {e : Expr} (h : PI X tg e (iRevR (tRg1 (rd X.K ma)))) : PI X tg e (rdI X.K fun ρ C P => ma ρ C fun x ρ1 C1 => match x with
    | .int j => bnd 0 j ∧ P (rangeD (0 + (((j - 0).toNat : Nat) : Int) - 1) (-1) (j - 0).toNat) ρ1 C1 | _ => False) := pi_weak h fun σ H R ⟨B, F, ρ, C, P, Rl, m, k⟩ =>
  ⟨B, F, ρ, C, _, Rl, m, fun x ρ1 C1 F1 v1 H1 s1 R1 r1 q1 => by
    try dsimp only at q1
    split at q1
    · cases r1
      obtain ⟨⟨b1, b2, b3, b4⟩, q1⟩ := q1
      exact ⟨_, rfl, b1, b2, b3, b4, k _ ρ1 C1 F1 _ H1 s1 R1 (it_rangeC _ _ _) q1⟩
    · exact q1.elim⟩
/-! ### targets -/
mutual
def tgSlots : Tg → List Nat
  | .nm i => [i]
  | .tp ts => tgsSlots ts
def tgsSlots : Tgs → List Nat
  | .nil => []
  | .cons t ts => tgSlots t ++ tgsSlots ts
end
/-- slots outside vs stay -/
def OutS (vs : List Nat) (ρ ρ' : Rho) (σ σ' : L2.St) : Prop := σ'.length = σ.length ∧ ∀ i, i ∉ vs → ρ'[i]? = ρ[i]? ∧ σ'[i]? = σ[i]?
theorem OutS.refl {vs : List Nat} {ρ : Rho} {σ : L2.St} : OutS vs ρ ρ σ σ := ⟨rfl, fun _ _ => ⟨rfl, rfl⟩⟩
theorem OutS.trans {vs : List Nat} {ρ ρ1 ρ2 : Rho} {σ σ1 σ2 : L2.St} (a : OutS vs ρ ρ1 σ σ1) (b : OutS vs ρ1 ρ2 σ1 σ2) : OutS vs ρ ρ2 σ σ2 :=
  ⟨b.1.trans a.1, fun i h => ⟨(b.2 i h).1.trans (a.2 i h).1, (b.2 i h).2.trans (a.2 i h).2⟩⟩
theorem OutS.mono {vs ws : List Nat} {ρ ρ1 : Rho} {σ σ1 : L2.St} (a : OutS vs ρ ρ1 σ σ1) (h : ∀ i ∈ vs, i ∈ ws) : OutS ws ρ ρ1 σ σ1 := ⟨a.1, fun i hi => a.2 i fun q => hi (h i q)⟩
def rg (K : PySem.W.Frag) (tg : Tg) : TG := fun v σ H Q => ∃ (B : Base) (F : Hp) (ρ : Rho) (C : CM) (d : D) (P : Rho → Prop), Rel K B F σ H ρ C ∧ Rep K F v d ∧ bindT tg d ρ P ∧
  ∀ ρ' σ', Rel K B F σ' H ρ' C → OutS (tgSlots tg) ρ ρ' σ σ' → P ρ' → Q σ' H
def rgs (K : PySem.W.Frag) (tg : Tgs) : TGs := fun vs σ H Q => ∃ (B : Base) (F : Hp) (ρ : Rho) (C : CM) (ds : List D) (P : Rho → Prop), Rel K B F σ H ρ C ∧ Reps K F vs ds ∧ bindTs tg ds ρ P ∧
  ∀ ρ' σ', Rel K B F σ' H ρ' C → OutS (tgsSlots tg) ρ ρ' σ σ' → P ρ' → Q σ' H
theorem pg_weak {e : Expr} {t t' : TG} (h : PG X e t) (k : ∀ v σ H Q, t' v σ H Q → t v σ H Q) : PG X e t' := ⟨fun pins s σ H x v Q I r q => h.run pins s σ H x v Q I r (k x σ H Q q)⟩
theorem pgs_weak {e : List Expr} {t t' : TGs} (h : PGs X e t) (k : ∀ v σ H Q, t' v σ H Q → t v σ H Q) : PGs X e t' := ⟨fun pins s σ H xs us Q I r q => h.run pins s σ H xs us Q I r (k xs σ H Q q)⟩
theorem g_nm {i : Nat} {e : Expr} (h : PG X e (gName i)) : PG X e (rg X.K (.nm i)) := pg_weak h fun v σ H Q ⟨B, F, ρ, C, d, P, R, r, m, k⟩ =>
  k _ _ (R.setDat i r) ⟨by rw [List.length_set], fun j hj => by
    have hne : i ≠ j := fun e => hj (by unfold tgSlots; rw [e]; exact List.mem_singleton.mpr rfl)
    exact ⟨List.getElem?_set_ne hne, List.getElem?_set_ne hne⟩⟩ m
theorem gs_nil : PGs X [] (rgs X.K .nil) := pgs_weak pgs_nil fun vs σ H Q ⟨B, F, ρ, C, ds, P, R, r, m, k⟩ => by
  cases r with
  | nil => exact ⟨rfl, k ρ σ R OutS.refl m⟩
  | cons _ _ => exact False.elim m
theorem gs_cons {e : Expr} {es : List Expr} {t : Tg} {ts : Tgs} (h : PGs X (e :: es) (gCons (rg X.K t) (rgs X.K ts))) : PGs X (e :: es) (rgs X.K (.cons t ts)) := pgs_weak h fun vs σ H Q ⟨B, F, ρ, C, ds, P, R, r, m, k⟩ => by
  cases r with
  | nil => exact False.elim m
  | cons r1 rr =>
    refine ⟨_, _, rfl, B, F, ρ, C, _, _, R, r1, m, fun ρ1 σ1 R1 o1 q1 => ⟨B, F, ρ1, C, _, _, R1, rr, q1, fun ρ2 σ2 R2 o2 q2 => k ρ2 σ2 R2 ?_ q2⟩⟩
    exact (o1.mono fun i hi => by unfold tgsSlots; exact List.mem_append_left _ hi).trans (o2.mono fun i hi => by unfold tgsSlots; exact List.mem_append_right _ hi)
theorem bindTs_len : ∀ {ts : Tgs} {ds : List D} {ρ : Rho} {P : Rho → Prop} {es : List Expr}, PGs X es (rgs X.K ts) → bindTs ts ds ρ P → True := fun _ _ => trivial
theorem pg_or {e : Expr} {t1 t2 : TG} (h1 : PG X e t1) (h2 : PG X e t2) : PG X e (fun v σ H Q => t1 v σ H Q ∨ t2 v σ H Q) := ⟨fun pins s σ H x v Q I r q => q.elim (h1.run pins s σ H x v Q I r) (h2.run pins s σ H x v Q I r)⟩
theorem g_tp {e : Expr} {ts : Tgs} {n : Nat} (hl : ∀ {ds : List D} {ρ : Rho} {P : Rho → Prop}, bindTs ts ds ρ P → ds.length = n) (h : PG X e (gTup X.K n (rgs X.K ts))) (h2 : PG X e (gLst X.K n (rgs X.K ts))) : PG X e (rg X.K (.tp ts)) := pg_weak (pg_or h h2) fun v σ H Q ⟨B, F, ρ, C, d, P, R, r, m, k⟩ => by
  cases d with
  | tup ds =>
    have m : bindTs ts ds ρ P := m
    obtain ⟨a, vs, rfl, ha, ra⟩ := r.tup_inv
    exact .inl ⟨a, vs, rfl, sqT_same R.ce.fh ha, by rw [ra.length]; exact hl m, B, F, ρ, C, _, P, R, ra, m, k⟩
  | lst ds =>
    have m : bindTs ts ds ρ P := m
    cases r with
    | lst ha ra => exact .inr ⟨_, _, rfl, .of (R.ce.fh _ _ ha), by rw [ra.length]; exact hl m, B, F, ρ, C, _, P, R, ra, m, k⟩
  | _ => exact False.elim m
end
end M61

set_option Elab.async false
set_option linter.all false
set_option autoImplicit false
set_option maxRecDepth 100000
/-! M4e: comprehensions, statements. -/
namespace M61
open PySem PySem.Spec PyProof.Rows L2
section
variable {K : PySem.W.Frag} {B : Base} {F F' H H' : Hp} {σ σ' : L2.St} {ρ ρ' : Rho} {C C' : CM}
/-- an address that nobody speaks of changes -/
theorem Rel.updFree (R : Rel K B F σ H ρ C) {a : Addr} {o : HO} (n1 : F a = none) (n2 : C a = none) (n3 : B.H a = none) (no : NotOwn ρ σ a) (pl : ∀ u, H a = some u → plO u) : Rel K B F σ (upd H a o) ρ C := by
  have neF : ∀ {b : Addr} {u : HO}, F b = some u → b ≠ a := fun q z => by rw [z, n1] at q; cases q
  have neC : ∀ {b : Addr} {c : Cell}, C b = some c → b ≠ a := fun q z => by rw [z, n2] at q; cases q
  have neB : ∀ {b : Addr} {u : HO}, B.H b = some u → b ≠ a := fun q z => by rw [z, n3] at q; cases q
  refine ⟨R.len, ⟨fun b u q => by rw [upd_ne (neF q)]; exact R.ce.fh b u q, fun b c q => ?_, R.ce.tb.upd pl⟩, ⟨R.fr.ff, R.fr.fnew, fun b u q q2 nt => by rw [upd_ne (neB q)]; exact R.fr.frame b u q q2 nt, R.fr.cnew, fun b u q => by rw [upd_ne (neB q)]; exact R.fr.stay b u q⟩, R.dat, fun i xs q => ?_, R.dis⟩
  · obtain ⟨q1, q2⟩ := R.ce.cel b c q
    exact ⟨q1.mono (Same.refl _) (fun u z => by rw [upd_ne (neC q)]; exact z), q2⟩
  · obtain ⟨b, ws, e1, e2, e3, e4, e5, e6⟩ := R.own i xs q
    have nb : b ≠ a := fun z => by subst z; exact no i xs q e1
    exact ⟨b, ws, e1, by rw [upd_ne nb]; exact e2, e3, e4, e5, e6⟩
end
section
variable {X : Cx}
/-- one turn of a comprehension -/
def compTurn (tg : Tg) (mc : MT) (me : ME) (vs : List Nat) (ρ1 : Rho) : D → CM → (Option D → CM → Prop) → Prop := fun d C2 K => bindT tg d (wipeR ρ1 vs) fun ρ2 => mc ρ2 C2 fun b ρ3 C3 => ρ3 = ρ2 ∧
  if b = true then me ρ3 C3 fun y ρ4 C4 => ρ4 = ρ2 ∧ K (some y) C4 else K none C3
theorem te_comp {mi : ML} {tg : Tg} {mc : MT} {me : ME} {vs : List Nat} (hsub : ∀ i ∈ tgSlots tg, i ∈ vs) : ∀ (σ : L2.St) (H : Hp) (Q : VK), rdL X.K (fun ρ C P => mi ρ C fun ds ρ1 C1 => compGo (compTurn tg mc me vs ρ1) ds [] C1 fun acc C4 => P acc ρ1 C4) σ H Q →
    tLc (rdI X.K mi) (rg X.K tg) (rdT X.K mc) (rd X.K me) vs σ H Q := fun σ H Q ⟨B, F, ρ, C, P, R, m, k⟩ =>
  ⟨B, F, ρ, C, _, R, m, fun ds ρ1 C1 F1 J H1 s1 R1 ⟨G, Y, w, hg, hy⟩ q1 D hD => by
    have bn := R1.base_none hD
    have no := R1.notOwn_of hD
    refine lc_it w (fun i H => ∃ F2 C2 acc vacc, Same F1 F2 ∧ Rel X.K B F2 σ H ρ1 C2 ∧ H D = some (HO.lst vacc) ∧ Reps X.K F2 vacc acc ∧ F2 D = none ∧ C2 D = none ∧
      compGo (compTurn tg mc me vs ρ1) (ds.drop i) acc C2 fun acc C4 => P acc ρ1 C4) ?_ (fun i H _ ⟨F2, C2, acc, vacc, s2, R2, _⟩ => hg H (s2.trans R2.ce.fh)) (fun i x H H' hi pv y => ?_) (fun H pv => ?_)
    · obtain ⟨R2, f1, f2, f3, f4⟩ := rel_fresh (vs := []) R1 hD
      exact ⟨F1, C1, [], [], Same.refl _, R2, upd_same, .nil, f1, f2, q1⟩
    · obtain ⟨F2, C2, acc, vacc, s2, R2, hl, ra, n1, n2, q2⟩ := pv
      obtain ⟨F3, d, g, hd, rd⟩ := hy i H F2 x H' hi s2 R2.ce.fh y
      have ed : ds.drop i = d :: ds.drop (i + 1) := by
        obtain ⟨h1, h2⟩ := List.getElem?_eq_some_iff.mp hd
        rw [← h2]; exact List.drop_eq_getElem_cons h1
      rw [ed] at q2
      have R3 := R2.grow g
      have hl3 : H' D = some (HO.lst vacc) := g.hh _ _ hl
      have n3 : F3 D = none := by
        cases z : F3 D with
        | none => rfl
        | some u =>
          rcases g.fnew D u z with z | z
          · rw [n1] at z; cases z
          · rw [hl] at z; cases z
      have nown : ¬ OwnAt (wipeR ρ1 vs) (wipe σ vs) D := fun ⟨j, ys, q1, q2⟩ => by
        obtain ⟨q3, nj⟩ := wipeR_some q1
        rw [wipe_outS nj] at q2
        exact no j ys q3 q2
      refine ⟨_, F3, wipeR ρ1 vs, C2, d, _, (R3.wiped vs).rebase, rd, q2, fun ρ2 σ2 R4 o4 q4 => ?_⟩
      have o5 : σ2.length = σ.length ∧ ∀ i, i ∉ vs → ρ2[i]? = ρ1[i]? ∧ σ2[i]? = σ[i]? := by
        obtain ⟨o1, o2⟩ := o4.mono hsub
        exact ⟨o1.trans (wipe_length _ _), fun i hi => ⟨(o2 i hi).1.trans (wipeR_out hi), (o2 i hi).2.trans (wipe_outS hi)⟩⟩
      refine ⟨wipe_eq o5.1 fun i hi => (o5.2 i hi).2, _, F3, ρ2, C2, _, R4, q4, fun b ρ3 C3 F5 H5 s5 R5 ⟨e3, q5⟩ => ?_⟩
      subst e3
      cases b with
      | false =>
        obtain ⟨k1, k2, k3⟩ := R5.keep hl3 n3 n2 nown
        exact ⟨F5, C3, acc, vacc, s2.trans (g.ff.trans s5), R3.back R5 o5.2, k1, ra.mono (g.ff.trans s5), k2, k3, q5⟩
      | true =>
        refine ⟨_, F5, ρ3, C3, _, R5, q5, fun y ρ4 C4 F6 v6 H6 s6 R6 r6 ⟨e4, q6, q7⟩ => ?_⟩
        subst e4
        obtain ⟨k1, k2, k3⟩ := R6.keep hl3 n3 n2 nown
        have s7 : Same F2 F6 := g.ff.trans (s5.trans s6)
        refine ⟨vacc, k1, by rw [ra.length]; exact q6, F6, C4, acc ++ [y], vacc ++ [v6], s2.trans s7, (R3.back R6 o5.2).updFree k2 k3 bn no (fun u hu => by rw [k1] at hu; cases hu; trivial), upd_same, (ra.mono s7).append (.cons r6 .nil), k2, k3, q7⟩
    · obtain ⟨F2, C2, acc, vacc, s2, R2, hl, ra, n1, n2, q2⟩ := pv
      rw [List.drop_length] at q2
      exact k acc ρ1 C2 F2 D vacc H (s1.trans s2) R2 hl ra n1 n2 bn no q2⟩

/-! ### statements -/
abbrev MS := AEnds → Rho → CM → Prop
def rdS (K : PySem.W.Frag) (m : MS) : TS := fun D σ H => ∃ (B : Base) (F : Hp) (ρ : Rho) (C : CM) (A : AEnds), Rel K B F σ H ρ C ∧ m A ρ C ∧
  (∀ ρ' C' F' σ' H', Same F F' → Rel K B F' σ' H' ρ' C' → A.nx ρ' C' → D.nx σ' H') ∧
  (∀ d C' F' v H', Cells K F' H' C' → Fr B.H B.F B.C H' F' C' → Rep K F' v d → A.rt d C' → D.rt v H') ∧
  (∀ ρ' C' F' σ' H', Same F F' → Rel K B F' σ' H' ρ' C' → A.bk ρ' C' → D.bk σ' H') ∧
  (∀ ρ' C' F' σ' H', Same F F' → Rel K B F' σ' H' ρ' C' → A.ct ρ' C' → D.ct σ' H')
theorem ps_weak {st : Stmt} {t t' : TS} (h : PS X st t) (k : ∀ D σ H, t' D σ H → t D σ H) : PS X st t' := ⟨fun pins s σ H D I q => h.run pins s σ H D I (k D σ H q)⟩
theorem pss_weak {st : List Stmt} {t t' : TS} (h : PSs X st t) (k : ∀ D σ H, t' D σ H → t D σ H) : PSs X st t' := ⟨fun pins s σ H D I q => h.run pins s σ H D I (k D σ H q)⟩

theorem ss_nil : PSs X [] (rdS X.K fun A ρ C => A.nx ρ C) := pss_weak pss_nil fun D σ H ⟨B, F, ρ, C, A, R, m, k1, _⟩ => k1 ρ C F σ H (Same.refl _) R m
theorem ss_cons {ms : MS} {mss : MS} {st : Stmt} {sts : List Stmt} (h1 : PS X st (rdS X.K ms)) (h2 : PSs X sts (rdS X.K mss)) :
    PSs X (st :: sts) (rdS X.K fun A ρ C => ms { A with nx := mss A } ρ C) := pss_weak (pss_cons h1 h2) fun D σ H ⟨B, F, ρ, C, A, R, m, k1, k2, k3, k4⟩ =>
  ⟨B, F, ρ, C, { A with nx := mss A }, R, m, fun ρ1 C1 F1 σ1 H1 s1 R1 q1 => ⟨B, F1, ρ1, C1, A, R1, q1, fun ρ2 C2 F2 σ2 H2 s2 R2 q2 => k1 ρ2 C2 F2 σ2 H2 (s1.trans s2) R2 q2, k2,
    fun ρ2 C2 F2 σ2 H2 s2 R2 q2 => k3 ρ2 C2 F2 σ2 H2 (s1.trans s2) R2 q2, fun ρ2 C2 F2 σ2 H2 s2 R2 q2 => k4 ρ2 C2 F2 σ2 H2 (s1.trans s2) R2 q2⟩, k2, k3, k4⟩
theorem s_set {i : Nat} {me : ME} {st : Stmt} (h : PS X st (tAsg (rd X.K me) (gName i))) : PS X st (rdS X.K fun A ρ C => me ρ C fun d ρ1 C1 => A.nx (ρ1.set i (some (.dat d))) C1) :=
  ps_weak h fun D σ H ⟨B, F, ρ, C, A, R, m, k1, _⟩ => ⟨B, F, ρ, C, _, R, m, fun d ρ1 C1 F1 v1 H1 s1 R1 r1 q1 => k1 _ C1 F1 _ H1 s1 (R1.setDat i r1) q1⟩
theorem s_par2 {i j : Nat} {ma : ML} {st : Stmt} (h : PS X st (tPar i j (rdA X.K ma))) : PS X st (rdS X.K fun A ρ C => ma ρ C fun ds ρ1 C1 => match ds with
    | [d, e] => A.nx ((ρ1.set i (some (.dat d))).set j (some (.dat e))) C1 | _ => False) :=
  ps_weak h fun D σ H ⟨B, F, ρ, C, A, R, m, k1, _⟩ => ⟨B, F, ρ, C, _, R, m, fun ds ρ1 C1 F1 vs H1 s1 R1 r1 q1 => by
    try dsimp only at q1
    split at q1
    · cases r1 with
      | cons ra rr =>
        cases rr with
        | cons rb rn =>
          cases rn
          exact ⟨_, _, rfl, k1 _ C1 F1 _ H1 s1 ((R1.setDat i ra).setDat j rb) q1⟩
    · exact q1.elim⟩
theorem s_par3 {i j l : Nat} {ma : ML} {st : Stmt} (h : PS X st (tPar3 i j l (rdA X.K ma))) : PS X st (rdS X.K fun A ρ C => ma ρ C fun ds ρ1 C1 => match ds with
    | [d, e, f] => A.nx (((ρ1.set i (some (.dat d))).set j (some (.dat e))).set l (some (.dat f))) C1 | _ => False) :=
  ps_weak h fun D σ H ⟨B, F, ρ, C, A, R, m, k1, _⟩ => ⟨B, F, ρ, C, _, R, m, fun ds ρ1 C1 F1 vs H1 s1 R1 r1 q1 => by
    try dsimp only at q1
    split at q1
    · cases r1 with
      | cons ra rr =>
        cases rr with
        | cons rb rn =>
          cases rn with
          | cons rc rm =>
            cases rm
            exact ⟨_, _, _, rfl, k1 _ C1 F1 _ H1 s1 (((R1.setDat i ra).setDat j rb).setDat l rc) q1⟩
    · exact q1.elim⟩
theorem s_own {i : Nat} {ml : ML} {st : Stmt} (h : PS X st (tAsg (rdL X.K ml) (gName i))) : PS X st (rdS X.K fun A ρ C => ml ρ C fun ds ρ1 C1 => A.nx (ρ1.set i (some (.own ds))) C1) :=
  ps_weak h fun D σ H ⟨B, F, ρ, C, A, R, m, k1, _⟩ => ⟨B, F, ρ, C, _, R, m, fun ds ρ1 C1 F1 a vs H1 s1 R1 hl rs n1 n2 n3 no q1 => k1 _ C1 F1 _ H1 s1 (R1.setOwn i hl rs n1 n2 n3 no) q1⟩
theorem s_unp {tg : Tg} {me : ME} {st : Stmt} (h : PS X st (tAsg (rd X.K me) (rg X.K tg))) : PS X st (rdS X.K fun A ρ C => me ρ C fun d ρ1 C1 => bindT tg d ρ1 fun ρ2 => A.nx ρ2 C1) :=
  ps_weak h fun D σ H ⟨B, F, ρ, C, A, R, m, k1, _⟩ => ⟨B, F, ρ, C, _, R, m, fun d ρ1 C1 F1 v1 H1 s1 R1 r1 q1 => ⟨B, F1, ρ1, C1, d, _, R1, r1, q1, fun ρ2 σ2 R2 _ q2 => k1 ρ2 C1 F1 σ2 H1 s1 R2 q2⟩⟩
theorem s_exp {me : ME} {st : Stmt} (h : PS X st (tDrop (rd X.K me))) : PS X st (rdS X.K fun A ρ C => me ρ C fun _ ρ1 C1 => A.nx ρ1 C1) :=
  ps_weak h fun D σ H ⟨B, F, ρ, C, A, R, m, k1, _⟩ => ⟨B, F, ρ, C, _, R, m, fun d ρ1 C1 F1 v1 H1 s1 R1 r1 q1 => k1 ρ1 C1 F1 σ H1 s1 R1 q1⟩
theorem s_ret {me : ME} {st : Stmt} (h : PS X st (tRet (rd X.K me))) : PS X st (rdS X.K fun A ρ C => me ρ C fun d _ C1 => A.rt d C1) :=
  ps_weak h fun D σ H ⟨B, F, ρ, C, A, R, m, k1, k2, _⟩ => ⟨B, F, ρ, C, _, R, m, fun d ρ1 C1 F1 v1 H1 s1 R1 r1 q1 => k2 d C1 F1 v1 H1 R1.ce R1.fr r1 q1⟩
theorem s_ret0 {st : Stmt} (h : PS X st tRetN) : PS X st (rdS X.K fun A _ C => A.rt .non C) :=
  ps_weak h fun D σ H ⟨B, F, ρ, C, A, R, m, k1, k2, _⟩ => k2 .non C F .non H R.ce R.fr .non m
theorem s_pass {st : Stmt} (h : PS X st tNext) : PS X st (rdS X.K fun A ρ C => A.nx ρ C) := ps_weak h fun D σ H ⟨B, F, ρ, C, A, R, m, k1, _⟩ => k1 ρ C F σ H (Same.refl _) R m
theorem s_brk {st : Stmt} (h : PS X st tBreak) : PS X st (rdS X.K fun A ρ C => A.bk ρ C) := ps_weak h fun D σ H ⟨B, F, ρ, C, A, R, m, k1, k2, k3, k4⟩ => k3 ρ C F σ H (Same.refl _) R m
theorem s_cnt {st : Stmt} (h : PS X st tCont) : PS X st (rdS X.K fun A ρ C => A.ct ρ C) := ps_weak h fun D σ H ⟨B, F, ρ, C, A, R, m, k1, k2, k3, k4⟩ => k4 ρ C F σ H (Same.refl _) R m
theorem s_nev {st : Stmt} : PS X st (rdS X.K fun _ _ _ => False) := ps_weak ps_never fun D σ H ⟨B, F, ρ, C, A, R, m, _⟩ => m.elim
theorem s_ife {mt : MT} {ma mb : MS} {st : Stmt} (h : PS X st (tIfS (rdT X.K mt) (rdS X.K ma) (rdS X.K mb))) :
    PS X st (rdS X.K fun A ρ C => mt ρ C fun k ρ1 C1 => if k = true then ma A ρ1 C1 else mb A ρ1 C1) := ps_weak h fun D σ H ⟨B, F, ρ, C, A, R, m, k1, k2, k3, k4⟩ =>
  ⟨B, F, ρ, C, _, R, m, fun b ρ1 C1 F1 H1 s1 R1 q1 => by
    have c1 := fun ρ2 C2 F2 σ2 H2 (s2 : Same F1 F2) R2 q2 => k1 ρ2 C2 F2 σ2 H2 (s1.trans s2) R2 q2
    have c3 := fun ρ2 C2 F2 σ2 H2 (s2 : Same F1 F2) R2 q2 => k3 ρ2 C2 F2 σ2 H2 (s1.trans s2) R2 q2
    have c4 := fun ρ2 C2 F2 σ2 H2 (s2 : Same F1 F2) R2 q2 => k4 ρ2 C2 F2 σ2 H2 (s1.trans s2) R2 q2
    cases b with
    | true => exact ⟨B, F1, ρ1, C1, A, R1, q1, c1, k2, c3, c4⟩
    | false => exact ⟨B, F1, ρ1, C1, A, R1, q1, c1, k2, c3, c4⟩⟩
theorem s_for {mi : ML} {tg : Tg} {mb : MS} {st : Stmt} (h : PS X st (tFor (rdI X.K mi) (rg X.K tg) (rdS X.K mb))) :
    PS X st (rdS X.K fun A ρ C => mi ρ C fun ds ρ1 C1 => forGo tg mb A ds ρ1 C1) := ps_weak h fun D σ H ⟨B, F, ρ, C, A, R, m, k1, k2, k3, k4⟩ =>
  ⟨B, F, ρ, C, _, R, m, fun ds ρ1 C1 F1 J H1 s1 R1 ⟨G, Y, w, hg, hy⟩ q1 => by
    refine for_it w (fun i σ H => ∃ F2 ρ2 C2, Same F1 F2 ∧ Rel X.K B F2 σ H ρ2 C2 ∧ forGo tg mb A (ds.drop i) ρ2 C2) ⟨F1, ρ1, C1, Same.refl _, R1, q1⟩ (fun i σ H _ ⟨F2, ρ2, C2, s2, R2, _⟩ => hg H (s2.trans R2.ce.fh)) (fun i x σ H H' hi pv y => ?_) (fun σ H pv => ?_)
    · obtain ⟨F2, ρ2, C2, s2, R2, q2⟩ := pv
      obtain ⟨F3, d, g, hd, rd⟩ := hy i H F2 x H' hi s2 R2.ce.fh y
      have ed : ds.drop i = d :: ds.drop (i + 1) := by
        obtain ⟨h1, h2⟩ := List.getElem?_eq_some_iff.mp hd
        rw [← h2]; exact List.drop_eq_getElem_cons h1
      rw [ed] at q2
      refine ⟨B, F3, ρ2, C2, d, _, R2.grow g, rd, q2, fun ρ3 σ3 R3 _ q3 => ⟨B, F3, ρ3, C2, _, R3, q3, fun ρ4 C4 F4 σ4 H4 s4 R4 q4 => ⟨F4, ρ4, C4, s2.trans (g.ff.trans s4), R4, q4⟩, k2, fun ρ4 C4 F4 σ4 H4 s4 R4 q4 => k1 ρ4 C4 F4 σ4 H4 (s1.trans (s2.trans (g.ff.trans s4))) R4 q4, fun ρ4 C4 F4 σ4 H4 s4 R4 q4 => ⟨F4, ρ4, C4, s2.trans (g.ff.trans s4), R4, q4⟩⟩⟩
    · obtain ⟨F2, ρ2, C2, s2, R2, q2⟩ := pv
      rw [List.drop_length] at q2
      exact k1 ρ2 C2 F2 σ H (s1.trans s2) R2 q2⟩
theorem reps_nums {K : PySem.W.Frag} {F : Hp} : ∀ {ns : List Int} {vs : List V}, Reps K F vs (ns.map .int) → vs = ns.map V.int
  | [], _, r => by cases r; rfl
  | n :: ns, _, r => by
    cases r with
    | cons r1 r2 => cases r1; rw [reps_nums r2]; rfl
theorem goC_at {a : Addr} {ns : List Int} {tg : Tg} {mb : MS} {A : AEnds} {ds : List Int} {ρ : Rho} {C : CM} (h : forGoC a ns tg mb A ds ρ C) : C a = some (.lst (ns.map .int)) := by
  cases ds with
  | nil => exact h.1
  | cons d ds => exact h.1
theorem s_forc {ma : ME} {tg : Tg} {mb : MS} {st : Stmt} (h : PS X st (tFor (iSeq X.K (rd X.K ma)) (rg X.K tg) (rdS X.K mb))) :
    PS X st (rdS X.K fun A ρ C => ma ρ C fun x ρ1 C1 => match x with
      | .ref a => ∃ ns : List Int, forGoC a ns tg mb A ns ρ1 C1
      | _ => False) := ps_weak h fun D σ H ⟨B, F, ρ, C, A, R, m, k1, k2, k3, k4⟩ =>
  ⟨B, F, ρ, C, _, R, m, fun x ρ1 C1 F1 v1 H1 s1 R1 r1 q1 => by
    try dsimp only at q1
    split at q1
    · rename_i a
      obtain ⟨ns, q1⟩ := q1
      cases r1
      have atC : ∀ {F2 : Hp} {H2 : Hp} {C2 : CM}, Cells X.K F2 H2 C2 → C2 a = some (.lst (ns.map .int)) → H2 a = some (HO.lst (ns.map V.int)) ∧ Reps X.K F2 (ns.map V.int) (ns.map .int) := fun ce hc => by
        obtain ⟨vs, hl, ra⟩ := (ce.cel _ _ hc).1
        have e := reps_nums ra
        subst e
        exact ⟨hl, ra⟩
      obtain ⟨hl1, ra1⟩ := atC R1.ce (goC_at q1)
      refine ⟨a, ns.map V.int, rfl, .inl ⟨.of hl1, ?_⟩⟩
      refine for_it walk_list (fun i σ H => ∃ F2 ρ2 C2, Same F1 F2 ∧ Rel X.K B F2 σ H ρ2 C2 ∧ forGoC a ns tg mb A (ns.drop i) ρ2 C2) ⟨F1, ρ1, C1, Same.refl _, R1, q1⟩ (fun i σ H _ ⟨F2, ρ2, C2, s2, R2, q2⟩ => .of (atC R2.ce (goC_at q2)).1) (fun i x σ H H' hi pv y => ?_) (fun σ H pv => ?_)
      · obtain ⟨F2, ρ2, C2, s2, R2, q2⟩ := pv
        obtain ⟨F3, d, g, hd, rd⟩ := it_at ra1 s2 R2.ce.fh y
        rw [List.getElem?_map] at hd
        obtain ⟨nd, hnd, rfl⟩ := Option.map_eq_some_iff.mp hd
        have ed : ns.drop i = nd :: ns.drop (i + 1) := by
          obtain ⟨h1, h2⟩ := List.getElem?_eq_some_iff.mp hnd
          rw [← h2]; exact List.drop_eq_getElem_cons h1
        rw [ed] at q2
        refine ⟨B, F3, ρ2, C2, .int nd, _, R2.grow g, rd, q2.2, fun ρ3 σ3 R3 _ q3 => ⟨B, F3, ρ3, C2, _, R3, q3, fun ρ4 C4 F4 σ4 H4 s4 R4 q4 => ⟨F4, ρ4, C4, s2.trans (g.ff.trans s4), R4, q4⟩, k2, fun ρ4 C4 F4 σ4 H4 s4 R4 q4 => k1 ρ4 C4 F4 σ4 H4 (s1.trans (s2.trans (g.ff.trans s4))) R4 q4, fun ρ4 C4 F4 σ4 H4 s4 R4 q4 => ⟨F4, ρ4, C4, s2.trans (g.ff.trans s4), R4, q4⟩⟩⟩
      · obtain ⟨F2, ρ2, C2, s2, R2, q2⟩ := pv
        rw [show ns.drop (ns.map V.int).length = [] by rw [List.length_map, List.drop_length]] at q2
        exact k1 ρ2 C2 F2 σ H (s1.trans s2) R2 q2.2
    · exact q1.elim⟩
theorem s_whl {mt : MT} {mb : MS} {st : Stmt} (h : PS X st (tWhile (rdT X.K mt) (rdS X.K mb))) :
    PS X st (rdS X.K fun A ρ C => ∃ n, whlGo mt mb A n ρ C) := ps_weak h fun D σ H ⟨B, F, ρ, C, A, R, ⟨n, m⟩, k1, k2, k3, k4⟩ => by
  refine ⟨fun n σ H => ∃ F2 ρ2 C2, Same F F2 ∧ Rel X.K B F2 σ H ρ2 C2 ∧ whlGo mt mb A n ρ2 C2, ⟨n, F, ρ, C, Same.refl _, R, m⟩, fun n σ H ⟨F2, ρ2, C2, s2, R2, q2⟩ => ?_⟩
  cases n with
  | zero => exact q2.elim
  | succ n =>
    refine ⟨B, F2, ρ2, C2, _, R2, q2, fun b ρ3 C3 F3 H3 s3 R3 q3 => ?_⟩
    cases b with
    | false => exact k1 ρ3 C3 F3 σ H3 (s2.trans s3) R3 q3
    | true =>
      refine ⟨fun σ' H' => ∃ F2 ρ2 C2, Same F F2 ∧ Rel X.K B F2 σ' H' ρ2 C2 ∧ whlGo mt mb A n ρ2 C2, fun σ' H' ⟨F4, ρ4, C4, s4, R4, q4⟩ => ⟨n, Nat.lt_succ_self n, F4, ρ4, C4, s4, R4, q4⟩,
        B, F3, ρ3, C3, _, R3, q3, fun ρ4 C4 F4 σ4 H4 s4 R4 q4 => ⟨F4, ρ4, C4, s2.trans (s3.trans s4), R4, q4⟩, k2, fun ρ4 C4 F4 σ4 H4 s4 R4 q4 => k1 ρ4 C4 F4 σ4 H4 (s2.trans (s3.trans s4)) R4 q4, fun ρ4 C4 F4 σ4 H4 s4 R4 q4 => ⟨F4, ρ4, C4, s2.trans (s3.trans s4), R4, q4⟩⟩
end
end M61

set_option Elab.async false
set_option linter.all false
set_option autoImplicit false
set_option maxRecDepth 100000
/-! M4f: statements that change lists; tests. -/
namespace M61
open PySem PySem.Spec PyProof.Rows L2
section
variable {X : Cx}
theorem varD_inv {ρ : Rho} {i : Nat} {f : D → Prop} (h : varD ρ i f) : ∃ d, ρ[i]? = some (some (Dv.dat d)) ∧ f d := by
  unfold varD at h
  split at h
  · exact ⟨_, by assumption, h⟩
  · exact h.elim
theorem s_augA {i : Nat} {me : ME} {st : Stmt} (h : PS X st (tAug i (rd X.K me) (ipI fun i j => i + j))) : PS X st (rdS X.K fun A ρ C => varD ρ i fun x => me ρ C fun y ρ1 C1 => match Bop.add, x, y with
    | .add, .int a, .int b => A.nx (ρ1.set i (some (.dat (.int (a + b))))) C1
    | .sub, .int a, .int b => A.nx (ρ1.set i (some (.dat (.int (a - b))))) C1
    | _, _, _ => False) := ps_weak h fun D σ H ⟨B, F, ρ, C, A, R, m, k1, _⟩ => by
  obtain ⟨d, hd, m⟩ := varD_inv m
  obtain ⟨v, hv, rv⟩ := R.dat i d hd
  refine ⟨v, hv, B, F, ρ, C, _, R, m, fun y ρ1 C1 F1 v1 H1 s1 R1 r1 q1 => ?_⟩
  cases d with
  | int a =>
    cases y with
    | int b =>
      cases rv; cases r1
      exact ⟨_, _, rfl, rfl, k1 _ C1 F1 _ H1 s1 (R1.setDat i (.int _)) q1⟩
    | _ => exact False.elim q1
  | _ => cases y <;> exact False.elim q1
theorem s_augS {i : Nat} {me : ME} {st : Stmt} (h : PS X st (tAug i (rd X.K me) (ipI fun i j => i - j))) : PS X st (rdS X.K fun A ρ C => varD ρ i fun x => me ρ C fun y ρ1 C1 => match Bop.sub, x, y with
    | .add, .int a, .int b => A.nx (ρ1.set i (some (.dat (.int (a + b))))) C1
    | .sub, .int a, .int b => A.nx (ρ1.set i (some (.dat (.int (a - b))))) C1
    | _, _, _ => False) := ps_weak h fun D σ H ⟨B, F, ρ, C, A, R, m, k1, _⟩ => by
  obtain ⟨d, hd, m⟩ := varD_inv m
  obtain ⟨v, hv, rv⟩ := R.dat i d hd
  refine ⟨v, hv, B, F, ρ, C, _, R, m, fun y ρ1 C1 F1 v1 H1 s1 R1 r1 q1 => ?_⟩
  cases d with
  | int a =>
    cases y with
    | int b =>
      cases rv; cases r1
      exact ⟨_, _, rfl, rfl, k1 _ C1 F1 _ H1 s1 (R1.setDat i (.int _)) q1⟩
    | _ => exact False.elim q1
  | _ => cases y <;> exact False.elim q1
theorem s_app {i : Nat} {me : ME} {st : Stmt} (h : PS X st (tDrop (tBM X.K "list" rAppend (tVar i) (tCons (rd X.K me) tNil)))) :
    PS X st (rdS X.K fun A ρ C => varO ρ i fun _ => me ρ C fun d ρ1 C1 => varO ρ1 i fun xs => xs.length < sizeLine ∧ A.nx (ρ1.set i (some (.own (xs ++ [d])))) C1) := ps_weak h fun D σ H ⟨B, F, ρ, C, A, R, m, k1, _⟩ => by
  obtain ⟨xs0, hx0, m⟩ := varO_inv m
  obtain ⟨a, vs0, e0, hl0, _⟩ := R.own i xs0 hx0
  refine ⟨_, e0, .inl ⟨rfl, vs0, .of hl0⟩, B, F, ρ, C, _, R, m, fun d ρ1 C1 F1 v1 H1 s1 R1 r1 q1 => ?_⟩
  obtain ⟨xs, hx, q1, q2⟩ := varO_inv q1
  obtain ⟨b, vs, e1, hl, ra, _⟩ := R1.own i xs hx
  rw [e0] at e1
  cases e1
  exact ⟨a, vs, v1, rfl, rfl, hl, by rw [ra.length]; exact q1, k1 _ C1 F1 σ _ s1 (R1.mutOwn hx e0 (ra.append (.cons r1 .nil))) q2⟩
theorem s_ext {i : Nat} {me : ME} {st : Stmt} (h : PS X st (tDrop (tBM X.K "list" rExtend (tVar i) (tCons (rd X.K me) tNil)))) :
    PS X st (rdS X.K fun A ρ C => varO ρ i fun _ => me ρ C fun d ρ1 C1 => varO ρ1 i fun xs => match d with
    | .lst ys => xs.length + ys.length ≤ sizeLine ∧ A.nx (ρ1.set i (some (.own (xs ++ ys)))) C1
    | _ => False) := ps_weak h fun D σ H ⟨B, F, ρ, C, A, R, m, k1, _⟩ => by
  obtain ⟨xs0, hx0, m⟩ := varO_inv m
  obtain ⟨a, vs0, e0, hl0, _⟩ := R.own i xs0 hx0
  refine ⟨_, e0, .inl ⟨rfl, vs0, .of hl0⟩, B, F, ρ, C, _, R, m, fun d ρ1 C1 F1 v1 H1 s1 R1 r1 q1 => ?_⟩
  obtain ⟨xs, hx, q1⟩ := varO_inv q1
  obtain ⟨b, vs, e1, hl, ra, _⟩ := R1.own i xs hx
  rw [e0] at e1
  cases e1
  try dsimp only at q1
  split at q1
  · obtain ⟨c, ws, rfl, hc, rc⟩ := r1.lst_inv
    exact ⟨a, c, vs, ws, rfl, rfl, hl, R1.ce.fh _ _ hc, by rw [ra.length, rc.length]; exact q1.1, k1 _ C1 F1 σ _ s1 (R1.mutOwn hx e0 (ra.append rc)) q1.2⟩
  · exact q1.elim
theorem s_oset {i : Nat} {me mk : ME} {st : Stmt} (h : PS X st (tAsg (rd X.K me) (gSub (tVar i) (rd X.K mk) rSetL))) :
    PS X st (rdS X.K fun A ρ C => me ρ C fun d ρ1 C1 => varO ρ1 i fun _ => mk ρ1 C1 fun x ρ2 C2 => varO ρ2 i fun xs => match x with
    | .int j => ∃ n, ixN xs.length j = some n ∧ A.nx (ρ2.set i (some (.own (xs.set n d)))) C2
    | _ => False) := ps_weak h fun D σ H ⟨B, F, ρ, C, A, R, m, k1, _⟩ =>
  ⟨B, F, ρ, C, _, R, m, fun d ρ1 C1 F1 v1 H1 s1 R1 r1 q1 => by
    obtain ⟨xs0, hx0, q1⟩ := varO_inv q1
    obtain ⟨a, vs0, e0, hl0, _⟩ := R1.own i xs0 hx0
    refine ⟨_, e0, B, F1, ρ1, C1, _, R1, q1, fun x ρ2 C2 F2 v2 H2 s2 R2 r2 q2 => ?_⟩
    obtain ⟨xs, hx, q2⟩ := varO_inv q2
    obtain ⟨b, vs, e1, hl, ra, _⟩ := R2.own i xs hx
    rw [e0] at e1
    cases e1
    try dsimp only at q2
    split at q2
    · cases r2
      obtain ⟨n, hn, q2⟩ := q2
      exact ⟨a, vs, _, n, rfl, rfl, hl, by rw [ra.length]; exact hn, k1 _ C2 F2 σ _ (s1.trans s2) (R2.mutOwn hx e0 (ra.set n (r1.mono s2))) q2⟩
    · exact q2.elim⟩
theorem s_csub {me mo mk : ME} {st : Stmt} (h : PS X st (tAsg (rd X.K me) (gSub (rd X.K mo) (rd X.K mk) rSetL))) :
    PS X st (rdS X.K fun A ρ C => me ρ C fun d ρ1 C1 => mo ρ1 C1 fun x ρ2 C2 => mk ρ2 C2 fun y ρ3 C3 => match x, y with
    | .ref a, .int j => ∃ xs n, C3 a = some (.lst xs) ∧ ixN xs.length j = some n ∧ A.nx ρ3 (fun b => if b = a then some (.lst (xs.set n d)) else C3 b)
    | _, _ => False) := ps_weak h fun D σ H ⟨B, F, ρ, C, A, R, m, k1, _⟩ =>
  ⟨B, F, ρ, C, _, R, m, fun d ρ1 C1 F1 v1 H1 s1 R1 r1 q1 => ⟨B, F1, ρ1, C1, _, R1, q1, fun x ρ2 C2 F2 v2 H2 s2 R2 r2 q2 => ⟨B, F2, ρ2, C2, _, R2, q2, fun y ρ3 C3 F3 v3 H3 s3 R3 r3 q3 => by
    try dsimp only at q3
    split at q3
    · cases r2; cases r3
      obtain ⟨xs, n, hc, hn, q3⟩ := q3
      obtain ⟨vs, hl, ra⟩ := (R3.ce.cel _ _ hc).1
      exact ⟨_, vs, _, n, rfl, rfl, hl, by rw [ra.length]; exact hn, k1 _ _ F3 σ _ (s1.trans (s2.trans s3)) (R3.mutCell (c' := .lst (xs.set n d)) hc ⟨_, upd_same, ra.set n ((r1.mono s2).mono s3)⟩) q3⟩
    · exact q3.elim⟩⟩⟩
theorem s_capp {mo me : ME} {st : Stmt} (h : PS X st (tDrop (tBM X.K "list" rAppend (rd X.K mo) (tCons (rd X.K me) tNil)))) :
    PS X st (rdS X.K fun A ρ C => mo ρ C fun x ρ1 C1 => match x with
    | .ref a => ∃ xs0, C1 a = some (.lst xs0) ∧ me ρ1 C1 fun d ρ2 C2 => ∃ xs, C2 a = some (.lst xs) ∧ xs.length < sizeLine ∧ A.nx ρ2 (fun b => if b = a then some (.lst (xs ++ [d])) else C2 b)
    | _ => False) := ps_weak h fun D σ H ⟨B, F, ρ, C, A, R, m, k1, _⟩ =>
  ⟨B, F, ρ, C, _, R, m, fun x ρ1 C1 F1 v1 H1 s1 R1 r1 q1 => by
    try dsimp only at q1
    split at q1
    · cases r1
      obtain ⟨xs0, hc0, q1⟩ := q1
      obtain ⟨vs0, hl0, _⟩ := (R1.ce.cel _ _ hc0).1
      refine ⟨.inl ⟨rfl, vs0, .of hl0⟩, B, F1, ρ1, C1, _, R1, q1, fun d ρ2 C2 F2 v2 H2 s2 R2 r2 ⟨xs, hc, hz, q2⟩ => ?_⟩
      obtain ⟨vs, hl, ra⟩ := (R2.ce.cel _ _ hc).1
      exact ⟨_, vs, v2, rfl, rfl, hl, by rw [ra.length]; exact hz, k1 _ _ F2 σ _ (s1.trans s2) (R2.mutCell (c' := .lst (xs ++ [d])) hc ⟨_, upd_same, ra.append (.cons r2 .nil)⟩) q2⟩
    · exact q1.elim⟩
def rIns : V → List V → Hp → VK → Prop := fun x vs H Q => ∃ (l : Addr) (xs : List V) (i : Int) (y : V), x = .ref l ∧ vs = [.int i, y] ∧ H l = some (.lst xs) ∧ xs.length < sizeLine ∧ 0 ≤ i ∧ i < 2 ^ 63 ∧
    Q .non (upd H l (.lst (xs.take i.toNat ++ [y] ++ xs.drop i.toNat)))
theorem s_cins {mo mk me : ME} {st : Stmt} (h : PS X st (tDrop (tBM X.K "list" rIns (rd X.K mo) (tCons (rd X.K mk) (tCons (rd X.K me) tNil))))) :
    PS X st (rdS X.K fun A ρ C => mo ρ C fun x ρ1 C1 => match x with
    | .ref a => ∃ xs0, C1 a = some (.lst xs0) ∧ mk ρ1 C1 fun y ρ2 C2 => me ρ2 C2 fun d ρ3 C3 => match y with
      | .int i => ∃ xs, C3 a = some (.lst xs) ∧ xs.length < sizeLine ∧ 0 ≤ i ∧ i < 2 ^ 63 ∧ A.nx ρ3 (fun b => if b = a then some (.lst (xs.take i.toNat ++ [d] ++ xs.drop i.toNat)) else C3 b)
      | _ => False
    | _ => False) := ps_weak h fun D σ H ⟨B, F, ρ, C, A, R, m, k1, _⟩ =>
  ⟨B, F, ρ, C, _, R, m, fun x ρ1 C1 F1 v1 H1 s1 R1 r1 q1 => by
    try dsimp only at q1
    split at q1
    · cases r1
      obtain ⟨xs0, hc0, q1⟩ := q1
      obtain ⟨vs0, hl0, _⟩ := (R1.ce.cel _ _ hc0).1
      refine ⟨.inl ⟨rfl, vs0, .of hl0⟩, B, F1, ρ1, C1, _, R1, q1, fun y ρ2 C2 F2 v2 H2 s2 R2 r2 q2 => ⟨B, F2, ρ2, C2, _, R2, q2, fun d ρ3 C3 F3 v3 H3 s3 R3 r3 q3 => ?_⟩⟩
      try dsimp only at q3
      split at q3
      · cases r2
        obtain ⟨xs, hc, hz, h1, h2, q3⟩ := q3
        obtain ⟨vs, hl, ra⟩ := (R3.ce.cel _ _ hc).1
        exact ⟨_, vs, _, v3, rfl, rfl, hl, by rw [ra.length]; exact hz, h1, h2, k1 _ _ F3 σ _ (s1.trans (s2.trans s3)) (R3.mutCell (c' := .lst (xs.take _ ++ [d] ++ xs.drop _)) hc ⟨_, upd_same, ((ra.take _).append (.cons r3 .nil)).append (ra.drop _)⟩) q3⟩
      · exact q3.elim
    · exact q1.elim⟩
/-! ### tests -/
theorem t_and {ma mb : MT} {e : Expr} (h : PT X e (tAnd (rdT X.K ma) (rdT X.K mb))) : PT X e (rdT X.K fun ρ C P => ma ρ C fun k ρ1 C1 => if k = true then mb ρ1 C1 P else P false ρ1 C1) :=
  pt_weak h fun σ H Q ⟨B, F, ρ, C, P, R, m, k⟩ => ⟨B, F, ρ, C, _, R, m, fun b ρ1 C1 F1 H1 s1 R1 q1 => by
    cases b with
    | false => exact k _ ρ1 C1 F1 H1 s1 R1 q1
    | true => exact ⟨B, F1, ρ1, C1, P, R1, q1, fun c ρ2 C2 F2 H2 s2 R2 q2 => k c ρ2 C2 F2 H2 (s1.trans s2) R2 q2⟩⟩
theorem t_or {ma mb : MT} {e : Expr} (h : PT X e (tOr (rdT X.K ma) (rdT X.K mb))) : PT X e (rdT X.K fun ρ C P => ma ρ C fun k ρ1 C1 => if k = true then P true ρ1 C1 else mb ρ1 C1 P) :=
  pt_weak h fun σ H Q ⟨B, F, ρ, C, P, R, m, k⟩ => ⟨B, F, ρ, C, _, R, m, fun b ρ1 C1 F1 H1 s1 R1 q1 => by
    cases b with
    | true => exact k _ ρ1 C1 F1 H1 s1 R1 q1
    | false => exact ⟨B, F1, ρ1, C1, P, R1, q1, fun c ρ2 C2 F2 H2 s2 R2 q2 => k c ρ2 C2 F2 H2 (s1.trans s2) R2 q2⟩⟩
theorem t_not {ma : MT} {e : Expr} (h : PT X e (tNot (rdT X.K ma))) : PT X e (rdT X.K fun ρ C P => ma ρ C fun k ρ1 C1 => P (!k) ρ1 C1) :=
  pt_weak h fun σ H Q ⟨B, F, ρ, C, P, R, m, k⟩ => ⟨B, F, ρ, C, _, R, m, fun b ρ1 C1 F1 H1 s1 R1 q1 => k _ ρ1 C1 F1 H1 s1 R1 q1⟩
/-- the truth of a value -/
theorem t_val {me : ME} {e : Expr} (h : PE X e (rd X.K me)) (he : ∀ whole, isTrue e X.env whole = (do let v ← whole; standAt e.pos; holding [v] (truthy v))) :
    PT X e (rdT X.K fun ρ C P => me ρ C fun d ρ1 C1 => truD d fun b => P b ρ1 C1) :=
  pt_weak (pt_truth h he) fun σ H Q ⟨B, F, ρ, C, P, R, m, k⟩ => ⟨B, F, ρ, C, _, R, m, fun d ρ1 C1 F1 v1 H1 s1 R1 r1 q1 => by
    obtain ⟨b, hb, p⟩ := tru_of R1.ce.fh r1 q1
    exact ⟨b, hb, k b ρ1 C1 F1 H1 s1 R1 p⟩⟩
/-- the truth of a comparison -/
theorem t_cmp {r : D → D → (Bool → Prop) → Prop} {ma mb : ME} {e : Expr} (h : PT X e (tTest (tOp (lift2 X.K fun d e P => r d e fun b => P (.bl b)) (rd X.K ma) (rd X.K mb)))) :
    PT X e (rdT X.K fun ρ C P => ma ρ C fun x ρ1 C1 => mb ρ1 C1 fun y ρ2 C2 => r x y fun b => P b ρ2 C2) :=
  pt_weak h fun σ H Q ⟨B, F, ρ, C, P, R, m, k⟩ => ⟨B, F, ρ, C, _, R, m, fun x ρ1 C1 F1 v1 H1 s1 R1 r1 q1 => ⟨B, F1, ρ1, C1, _, R1, q1, fun y ρ2 C2 F2 v2 H2 s2 R2 r2 q2 =>
    ⟨F2, x, y, blP fun b => P b ρ2 C2, R2.ce.fh, r1.mono s2, r2, q2, fun d F3 v3 H3 g r3 p3 => by
      obtain ⟨b, rfl, rfl, p3⟩ := blP_inv r3 p3
      exact ⟨b, rfl, k b ρ2 C2 F3 H3 (s1.trans (s2.trans g.ff)) (R2.grow g) p3⟩⟩⟩⟩
theorem t_chn {r r' : D → D → (Bool → Prop) → Prop} {ma mb mc : ME} {e : Expr} (h : PT X e (tTest (tChain (lift2 X.K fun d e P => r d e fun b => P (.bl b)) (lift2 X.K fun d e P => r' d e fun b => P (.bl b)) (rd X.K ma) (rd X.K mb) (rd X.K mc)))) :
    PT X e (rdT X.K fun ρ C P => ma ρ C fun x ρ1 C1 => mb ρ1 C1 fun y ρ2 C2 => r x y fun k => if k = true then mc ρ2 C2 fun z ρ3 C3 => r' y z fun k' => P k' ρ3 C3 else P false ρ2 C2) :=
  pt_weak h fun σ H Q ⟨B, F, ρ, C, P, R, m, k⟩ =>
  ⟨B, F, ρ, C, _, R, m, fun x ρ1 C1 F1 v1 H1 s1 R1 r1 q1 => ⟨B, F1, ρ1, C1, _, R1, q1, fun y ρ2 C2 F2 v2 H2 s2 R2 r2 q2 =>
    ⟨F2, x, y, blP fun k => if k = true then mc ρ2 C2 fun z ρ3 C3 => r' y z fun k' => P k' ρ3 C3 else P false ρ2 C2, R2.ce.fh, r1.mono s2, r2, q2, fun d F3 v3 H3 g r3 p3 => by
      obtain ⟨b, rfl, rfl, p3⟩ := blP_inv r3 p3
      refine ⟨b, rfl, ?_⟩
      cases b with
      | false => exact ⟨false, rfl, k _ ρ2 C2 F3 H3 (s1.trans (s2.trans g.ff)) (R2.grow g) p3⟩
      | true => exact ⟨B, F3, ρ2, C2, _, R2.grow g, p3, fun z ρ3 C3 F4 v4 H4 s4 R4 r4 q4 => ⟨F4, y, z, blP fun k' => P k' ρ3 C3, R4.ce.fh, (r2.mono g.ff).mono s4, r4, q4, fun d F5 v5 H5 g5 r5 p5 => by
          obtain ⟨b, rfl, rfl, p5⟩ := blP_inv r5 p5
          exact ⟨b, rfl, k _ ρ3 C3 F5 H5 (s1.trans (s2.trans (g.ff.trans (s4.trans g5.ff)))) (R4.grow g5) p5⟩⟩⟩⟩⟩⟩
theorem t_one {i : Nat} {e : Expr} (h : PT X e (tTest (tOp (rNeD X.K) (tVar i) (tLst tNil)))) :
    PT X e (rdT X.K fun ρ C P => varL ρ C i fun xs => (D.lst xs).Cmp ∧ P (!xs.isEmpty) ρ C) := pt_weak h fun σ H Q ⟨B, F, ρ, C, P, R, m, k⟩ => by
  obtain ⟨a, vs, xs, e1, hl, ra, ⟨p1, p2⟩, m⟩ := varL_rel R m
  refine ⟨_, e1, Nat.zero_le _, fun p hp => ?_⟩
  have hs := same_upd (o := HO.lst []) hp
  have R2 := (rel_fresh (vs := []) R hp).1
  refine ⟨_, _, .lst (.of (hs _ _ hl)) (reps_dp ((ra.mono R.ce.fh).mono hs) p1), .lst (.of upd_same) .nil, p2, by decide +kernel, _, rfl, ?_⟩
  have e : (!PyData.eqv (.list (D.pys xs)) (.list [])) = !xs.isEmpty := by rw [← eqv_nil xs]; rfl
  rw [e]
  exact k _ ρ C F _ (Same.refl _) R2 m
theorem t_oem {i : Nat} {e : Expr} (h : PT X e (tTest (tOp (rEqD X.K) (tVar i) (tLst tNil)))) :
    PT X e (rdT X.K fun ρ C P => varL ρ C i fun xs => (D.lst xs).Cmp ∧ P xs.isEmpty ρ C) := pt_weak h fun σ H Q ⟨B, F, ρ, C, P, R, m, k⟩ => by
  obtain ⟨a, vs, xs, e1, hl, ra, ⟨p1, p2⟩, m⟩ := varL_rel R m
  refine ⟨_, e1, Nat.zero_le _, fun p hp => ?_⟩
  have hs := same_upd (o := HO.lst []) hp
  have R2 := (rel_fresh (vs := []) R hp).1
  refine ⟨_, _, .lst (.of (hs _ _ hl)) (reps_dp ((ra.mono R.ce.fh).mono hs) p1), .lst (.of upd_same) .nil, p2, by decide +kernel, _, rfl, ?_⟩
  have e : PyData.eqv (.list (D.pys xs)) (.list []) = xs.isEmpty := by rw [← eqv_nil xs]; rfl
  rw [e]
  exact k _ ρ C F _ (Same.refl _) R2 m
theorem t_cne {ma : ME} {e : Expr} (h : PT X e (tTest (tOp (rNeD X.K) (rd X.K ma) (tLst tNil)))) :
    PT X e (rdT X.K fun ρ C P => ma ρ C fun x ρ1 C1 => ∃ xs, lstD C1 x = some xs ∧ (D.lst xs).Cmp ∧ P (!xs.isEmpty) ρ1 C1) := pt_weak h fun σ H Q ⟨B, F, ρ, C, P, R, m, k⟩ =>
  ⟨B, F, ρ, C, _, R, m, fun x ρ1 C1 F1 v1 H1 s1 R1 r1 ⟨xs, hx, ⟨p1, p2⟩, q⟩ => by
    obtain ⟨a, vs, rfl, hl, ra⟩ := lstD_rel R1.ce r1 hx
    refine ⟨Nat.zero_le _, fun p hp => ?_⟩
    have hs := same_upd (o := HO.lst []) hp
    have R2 := (rel_fresh (vs := []) R1 hp).1
    refine ⟨_, _, .lst (.of (hs _ _ hl)) (reps_dp ((ra.mono R1.ce.fh).mono hs) p1), .lst (.of upd_same) .nil, p2, by decide +kernel, _, rfl, ?_⟩
    have e : (!PyData.eqv (.list (D.pys xs)) (.list [])) = !xs.isEmpty := by rw [← eqv_nil xs]; rfl
    rw [e]
    exact k _ ρ1 C1 F1 _ s1 R2 q⟩
theorem t_ceq {ma : ME} {e : Expr} (h : PT X e (tTest (tOp (rEqD X.K) (rd X.K ma) (tLst tNil)))) :
    PT X e (rdT X.K fun ρ C P => ma ρ C fun x ρ1 C1 => ∃ xs, lstD C1 x = some xs ∧ (D.lst xs).Cmp ∧ P xs.isEmpty ρ1 C1) := pt_weak h fun σ H Q ⟨B, F, ρ, C, P, R, m, k⟩ =>
  ⟨B, F, ρ, C, _, R, m, fun x ρ1 C1 F1 v1 H1 s1 R1 r1 ⟨xs, hx, ⟨p1, p2⟩, q⟩ => by
    obtain ⟨a, vs, rfl, hl, ra⟩ := lstD_rel R1.ce r1 hx
    refine ⟨Nat.zero_le _, fun p hp => ?_⟩
    have hs := same_upd (o := HO.lst []) hp
    have R2 := (rel_fresh (vs := []) R1 hp).1
    refine ⟨_, _, .lst (.of (hs _ _ hl)) (reps_dp ((ra.mono R1.ce.fh).mono hs) p1), .lst (.of upd_same) .nil, p2, by decide +kernel, _, rfl, ?_⟩
    have e : PyData.eqv (.list (D.pys xs)) (.list []) = xs.isEmpty := by rw [← eqv_nil xs]; rfl
    rw [e]
    exact k _ ρ1 C1 F1 _ s1 R2 q⟩
/-- a comprehension's tests -/
theorem c_no : PTs X [] (rdT X.K fun ρ C P => P true ρ C) := ⟨fun pins s σ H Q I ⟨B, F, ρ, C, P, R, m, k⟩ => pts_nil.run pins s σ H Q I (k true ρ C F H (Same.refl _) R m)⟩
theorem c_yes {mt : MT} {e : Expr} (h : PT X e (rdT X.K mt)) : PTs X [e] (rdT X.K mt) := pts_one h
end
end M61

set_option Elab.async false
set_option linter.all false
set_option autoImplicit false
set_option maxRecDepth 100000
/-! M4g: zip of lists and tuples, mixed; of three. -/
namespace M61
open PySem PySem.Spec PyProof.Rows L2
def SqK (t : Bool) (K : PySem.W.Frag) (H : Hp) (a : Addr) (xs : List V) : Prop := match t with
  | true => SqT K H a xs
  | false => SqL K H a xs
def IterK (t : Bool) (h : Heap) (it a : Addr) (i : Nat) : Prop := match t with
  | true => h.IsTupleIter it a i
  | false => h.IsListIter it a i
def HeldK (t : Bool) (h : Heap) (a : Addr) (its : Array Value) : Prop := match t with
  | true => h.IsTuple a its
  | false => h.IsList a its
def itObj (t : Bool) (a : Addr) : Obj := match t with
  | true => { cls := .type "tuple_iterator", data := .fields #[.ref a, .int 0 0] }
  | false => { cls := .type "list_iterator", data := .fields #[.ref a, .int 0 0] }
theorem drawsK {P : Program} {w : World} {A : Around} (t : Bool) (hh : A.handled = none) (it a : Addr) (hne : a ≠ it) (its : Array Value) :
    Draws P w A it [it, a] its.size (fun i v => its[i]? = some v) (fun i h => IterK t h it a i ∧ HeldK t h a its) := by
  cases t
  · exact Draws.list hh it a hne its
  · exact Draws.tuple hh it a hne its
theorem beginsK (t : Bool) (a : Addr) (its : Array Value) : Begins (.ref a) (itObj t a) (fun h => HeldK t h a its) := by
  cases t
  · exact begins_list a its
  · exact begins_tuple a its
theorem seqK {X : Cx} {pins : List (Addr × Obj)} {σ : L2.St} {H : Hp} {s : Shared} (t : Bool) (I : Inv X pins σ H s) {a : Addr} {xs : List V} (h : SqK t X.K H a xs) : ∃ its : List Value, Vals xs its ∧ HeldK t s.heap a its.toArray := by
  cases t
  · obtain ⟨its, r, p, _⟩ := I.list h; exact ⟨its, r, p.isList⟩
  · obtain ⟨its, r, p, _⟩ := I.tuple h; exact ⟨its, r, (show s.heap.IsTuple a its.toArray from p)⟩
theorem injK {X : Cx} {pins : List (Addr × Obj)} {σ : L2.St} {H : Hp} {s : Shared} {t : Bool} (I : Inv X pins σ H s) {a : Addr} {xs ys : List V} (h : SqK t X.K H a xs) (h' : SqK t X.K H a ys) : xs = ys := by
  cases t
  · exact I.list_inj h h'
  · exact I.tuple_inj h h'
theorem IterK.at {t : Bool} {h h' : Heap} {it a : Addr} {i : Nat} (r : IterK t h it a i) (k : ∀ o, h.get? it = some o → h'.get? it = some o) : IterK t h' it a i := by
  cases t
  · exact (show h.IsListIter it a i from r).at k
  · exact (show h.IsTupleIter it a i from r).at k
theorem IterK.obj {t : Bool} {h : Heap} {it a : Addr} {i : Nat} (r : IterK t h it a i) : ∃ o, h.get? it = some o ∧ ∀ v, o.data ≠ .cell v := by
  cases t
  · obtain ⟨o, e, _, d⟩ := (show h.IsListIter it a i from r); exact ⟨o, e, fun v q => by rw [d] at q; cases q⟩
  · obtain ⟨o, e, _, d⟩ := (show h.IsTupleIter it a i from r); exact ⟨o, e, fun v q => by rw [d] at q; cases q⟩
theorem IterK.new {t : Bool} {h : Heap} {it a : Addr} (g : h.get? it = some (itObj t a)) : IterK t h it a 0 := by
  cases t
  · exact ⟨_, g, rfl, rfl⟩
  · exact ⟨_, g, rfl, rfl⟩
theorem HeldK.lt {t : Bool} {h : Heap} {a : Addr} {its : Array Value} (r : HeldK t h a its) : a < h.objs.size := by
  cases t
  · obtain ⟨o, e, _⟩ := (show h.IsList a its from r); exact Heap.lt_size e
  · obtain ⟨o, e, _⟩ := (show h.IsTuple a its from r); exact Heap.lt_size e
def ItzK (ta tb : Bool) (K : PySem.W.Frag) (a b : Addr) : It :=
  ⟨fun i H => ∃ (xs ys : List V) (x y : V), SqK ta K H a xs ∧ SqK tb K H b ys ∧ xs[i]? = some x ∧ ys[i]? = some y,
    fun i H v H' => ∃ T x y, v = .ref T ∧ H T = none ∧ H' = upd H T (.tup [x, y]) ∧ (∀ xs, SqK ta K H a xs → xs[i]? = some x) ∧ ∀ ys, SqK tb K H b ys → ys[i]? = some y,
    fun i H => ∃ xs ys : List V, SqK ta K H a xs ∧ SqK tb K H b ys ∧ i = min xs.length ys.length⟩
theorem turn_zipK {P : Program} {w : World} {K : PySem.W.Frag} {elts : List Expr} {kk : Nat} {tpos : Pos} {ta tb : Bool} {a b z TI TO i1 i2 : Addr} (S : ZipSep2 z TI TO i1 i2 [i1, a] [i2, b]) (n1 : a ≠ i1) (n2 : b ≠ i2) (z1 : z ≠ i1) (z2 : z ≠ i2) :
    Turn P w K (.Tuple elts kk tpos) (ItzK ta tb K a b) [z, TI, TO, i1, i2] z (fun i h => IsZip h z TI TO .none ∧ IsTupOf2 h TI (.ref i1) (.ref i2) ∧ (∃ x y, IsTupOf2 h TO x y) ∧ IterK ta h i1 a i ∧ IterK tb h i2 b i) where
  mem := by simp
  obj := fun i h st c hc => by
    obtain ⟨hz, hTI, ⟨x, y, hTO⟩, h1, h2⟩ := st
    have e' : c = z ∨ c = TI ∨ c = TO ∨ c = i1 ∨ c = i2 := by simpa using hc
    rcases e' with q | q | q | q | q
    · rw [q]; exact ⟨_, hz, fun v q => nomatch q⟩
    · rw [q]; exact ⟨_, hTI, fun v q => nomatch q⟩
    · rw [q]; exact ⟨_, hTO, fun v q => nomatch q⟩
    · rw [q]; exact h1.obj
    · rw [q]; exact h2.obj
  keep := fun i h h' st k => by
    obtain ⟨hz, hTI, ⟨x, y, hTO⟩, h1, h2⟩ := st
    exact ⟨k z (by simp) _ hz, k TI (by simp) _ hTI, ⟨x, y, k TO (by simp) _ hTO⟩, h1.at fun o q => k i1 (by simp) o q, h2.at fun o q => k i2 (by simp) o q⟩
  item := by
    intro X hP hw hK hc i pins s σ H E I hf st hg
    subst hP hw hK
    obtain ⟨hz, hTI, ⟨x0, y0, hTO⟩, h1, h2⟩ := st
    obtain ⟨xs, ys, x, y, hqx, hqy, hx, hy⟩ := hg
    obtain ⟨its, rv, p⟩ := seqK ta I hqx
    obtain ⟨its2, rv2, p2⟩ := seqK tb I hqy
    obtain ⟨u, hu, ru⟩ := rv.get hx
    obtain ⟨u2, hu2, ru2⟩ := rv2.get hy
    have hzl : z < s.heap.objs.size := Heap.lt_size hz
    obtain ⟨o1, e1, _⟩ := h1.obj
    obtain ⟨o2, e2, _⟩ := h2.obj
    have b1 : i < its.length := by rcases Nat.lt_or_ge i its.length with q | q; exact q; rw [List.getElem?_eq_none q] at hu; cases hu
    have b2 : i < its2.length := by rcases Nat.lt_or_ge i its2.length with q | q; exact q; rw [List.getElem?_eq_none q] at hu2; cases hu2
    refine wpAny_pyNext_zipD2_item S (drawsK ta (show X.A.in1.handled = none from I.ok.hd hc) i1 a n1 its.toArray) (drawsK tb (show X.A.in1.handled = none from I.ok.hd hc) i2 b n2 its2.toArray) hz hTI hTO ⟨h1, p⟩ ⟨h2, p2⟩ (by simpa using b1) (by simpa using b2) fun v v2 h' tk hv hv2 z' TO' d1 d2 hT hsz hk => ?_
    have ev : v = u := by
      have : its[i]? = some v := by simpa using hv
      rw [hu] at this; cases this; rfl
    have ev2 : v2 = u2 := by
      have : its2[i]? = some v2 := by simpa using hv2
      rw [hu2] at this; cases this; rfl
    subst ev ev2
    refine ⟨_, rfl, wpAny_letOwnedTupleGo_zip (s := { s with heap := h', toks := tk }) z' fun h'' z'' sb => ?_⟩
    have hT2 : h''.get? s.heap.objs.size = some { cls := .type "tuple", data := .seq #[v, v2] } := (sb.2 _ (Nat.ne_of_gt hzl)).trans hT
    have new : ObjOk X.prog X.w (upd H s.heap.objs.size (.tup [x, y])) h'' s.heap.objs.size (.tup [x, y]) :=
      ⟨by show 2 ≤ sizeLine; decide, [v, v2], .cons ru (.cons ru2 .nil), ⟨_, hT2, rfl, _, rfl⟩⟩
    have I1 : Inv X pins σ (upd H s.heap.objs.size (.tup [x, y])) { s with heap := h'', toks := tk } :=
      I.turnedNew (t' := tk) (ch := [z, TI, TO, i1, i2]) (fun c o hb q => (sb.2 c (fun q' => hb (by simp [q']))).trans (hk c o (fun q' => hb (by simp [q'])) (fun q' => hb (by simp [q'])) (fun q' => hb (by simp [q'])) (fun q' => hb (by simp [q'])) q)) hf (Nat.le_refl _) new
    refine ⟨.ref s.heap.objs.size, _, I1, rfl, ⟨_, x, y, rfl, I.hok.fresh (Nat.le_refl _), rfl, fun l hl => by rw [injK I hl hqx]; exact hx, fun l hl => by rw [injK I hl hqy]; exact hy⟩, ⟨z'', ?_, ⟨v, v2, ?_⟩, ?_, ?_⟩, fun c hcm => ?_⟩
    · exact (sb.2 _ S.TIz).trans (hk _ _ S.TIz S.TITO S.TIi1 S.TIi2 hTI)
    · exact (sb.2 _ S.TOz).trans TO'
    · exact d1.1.at fun o q => (sb.2 _ (fun e => z1 e.symm)).trans q
    · exact d2.1.at fun o q => (sb.2 _ (fun e => z2 e.symm)).trans q
    · have hlt : c < s.heap.objs.size := by
        have e' : c = z ∨ c = TI ∨ c = TO ∨ c = i1 ∨ c = i2 := by simpa using hcm
        rcases e' with q | q | q | q | q
        · rw [q]; exact hzl
        · rw [q]; exact Heap.lt_size hTI
        · rw [q]; exact Heap.lt_size hTO
        · rw [q]; exact Heap.lt_size e1
        · rw [q]; exact Heap.lt_size e2
      rw [upd_ne (Nat.ne_of_lt hlt)]
      exact (hf c hcm).1
  done := by
    intro X hP hw hK hc i pins s σ H E I hf st hg
    subst hP hw hK
    obtain ⟨hz, hTI, ⟨x0, y0, hTO⟩, h1, h2⟩ := st
    obtain ⟨xs, ys, hqx, hqy, hend⟩ := hg
    obtain ⟨its, rv, p⟩ := seqK ta I hqx
    obtain ⟨its2, rv2, p2⟩ := seqK tb I hqy
    have l1 := rv.length
    have l2 := rv2.length
    refine wpAny_pyNext_zipD2_end S (drawsK ta (show X.A.in1.handled = none from I.ok.hd hc) i1 a n1 its.toArray) (drawsK tb (show X.A.in1.handled = none from I.ok.hd hc) i2 b n2 its2.toArray) hz hTI hTO ⟨h1, p⟩ ⟨h2, p2⟩ ?_ ?_ ?_ fun h' tk hk => ⟨rfl, I.turnedL (t' := tk) (ch := [z, TI, TO, i1, i2]) (fun c o hb q =>
      hk c o (fun q' => hb (by simp [q'])) (fun q' => hb (by simp [q'])) (fun q' => hb (by simp [q'])) (fun q' => hb (by simp [q'])) q) hf⟩
    · show i ≤ its.toArray.size
      rw [List.size_toArray]; omega
    · show i ≤ its2.toArray.size
      rw [List.size_toArray]; omega
    · show i = its.toArray.size ∨ i = its2.toArray.size
      rw [List.size_toArray, List.size_toArray]; omega
  self := fun A i s Q E st h => wpAny_pyIter_zip st.1 h
def iZipK (K : PySem.W.Frag) (t : TA) : TI := fun σ H R => t σ H fun vs H1 => ∃ ta tb a b xs ys, vs = [.ref a, .ref b] ∧ SqK ta K H1 a xs ∧ SqK tb K H1 b ys ∧ R (ItzK ta tb K a b) H1
theorem pi_zipK {X : Cx} {e e2 : Expr} {t : TA} {p pos tpos : Pos} {elts : List Expr} {kk : Nat} (hg : Gl X "zip") (hm : X.mg "zip" = none) (ha : PA X [e, e2] t)
    (hs : starEach [e, e2] X.env = (false, eval e X.env) :: starEach [e2] X.env := by rfl) (hpl : (backTo pos (starEach [e2] X.env)).any (·.1) = false := by rfl) :
    PI X (.Tuple elts kk tpos) (.Call (.Name "zip" p) [e, e2] [] pos) (iZipK X.K t) := by
  refine ⟨fun pins s σ H R I h => ?_⟩
  refine Call_ (ld_blt I hg hm PyProof.Rows.boot_zip (PyProof.Rows.callWith_type1 (thn (ha.run pos pins s σ H _ I h) fun us s1 ⟨vs, H1, I1, r1, q1⟩ => ?_) hs hpl))
  obtain ⟨ta, tb, a, b, xs, ys, ex, hqx, hqy, q⟩ := q1
  subst ex
  cases r1 with
  | cons r rr =>
    cases rr with
    | cons r' rr =>
      cases rr
      cases r
      cases r'
      have fresh5 : ∀ c, c ∈ [s1.heap.objs.size + 4, s1.heap.objs.size + 2, s1.heap.objs.size + 3, s1.heap.objs.size, s1.heap.objs.size + 1] → FpOk X pins H1 c := fun c hcm => by
        have e' : c = s1.heap.objs.size + 4 ∨ c = s1.heap.objs.size + 2 ∨ c = s1.heap.objs.size + 3 ∨ c = s1.heap.objs.size ∨ c = s1.heap.objs.size + 1 := by simpa using hcm
        have hle : s1.heap.objs.size ≤ c := by
          rcases e' with z | z | z | z | z <;> rw [z] <;> first | exact Nat.le_add_right _ _ | exact Nat.le_refl _
        exact I1.fpOk hle (I1.hok.fresh hle)
      obtain ⟨its, rv, p1⟩ := seqK ta I1 hqx
      obtain ⟨its2, rv2, p2⟩ := seqK tb I1 hqy
      have la := p1.lt
      have lb := p2.lt
      refine zip_begins2 (beginsK ta a its.toArray) (beginsK tb b its2.toArray) p1 p2 fun h' hz hTI hTO g1 g2 hsz hk => wpAny_pyIter_zip hz ?_
      have I2 : Inv X pins σ H1 { s1 with heap := h' } := I1.kept (t' := s1.toks) hk
      exact ⟨s1.heap.objs.size + 4, [s1.heap.objs.size + 4, s1.heap.objs.size + 2, s1.heap.objs.size + 3, s1.heap.objs.size, s1.heap.objs.size + 1], _, _, H1, rfl, I2,
        turn_zipK (zip_sep2 (fun c h => by rw [List.mem_singleton.mp h]; exact la) (fun c h => by rw [List.mem_singleton.mp h]; exact lb)) (Nat.ne_of_lt la) (Nat.ne_of_lt (Nat.lt_succ_of_lt lb)) (by show s1.heap.objs.size + 4 ≠ s1.heap.objs.size; omega) (by show s1.heap.objs.size + 4 ≠ s1.heap.objs.size + 1; omega),
        ⟨hz, hTI, ⟨_, _, hTO⟩, .new g1, .new g2⟩, fresh5, q⟩
/-! three -/
def ItzK3 (ta tb tc : Bool) (K : PySem.W.Frag) (a b d : Addr) : It :=
  ⟨fun i H => ∃ (xs ys zs : List V) (x y z : V), SqK ta K H a xs ∧ SqK tb K H b ys ∧ SqK tc K H d zs ∧ xs[i]? = some x ∧ ys[i]? = some y ∧ zs[i]? = some z,
    fun i H v H' => ∃ T x y z, v = .ref T ∧ H T = none ∧ H' = upd H T (.tup [x, y, z]) ∧ (∀ xs, SqK ta K H a xs → xs[i]? = some x) ∧ (∀ ys, SqK tb K H b ys → ys[i]? = some y) ∧ ∀ zs, SqK tc K H d zs → zs[i]? = some z,
    fun i H => ∃ xs ys zs : List V, SqK ta K H a xs ∧ SqK tb K H b ys ∧ SqK tc K H d zs ∧ i = min xs.length (min ys.length zs.length)⟩
theorem turn_zipK3 {P : Program} {w : World} {K : PySem.W.Frag} {elts : List Expr} {kk : Nat} {tpos : Pos} {ta tb tc : Bool} {a b d z TI TO i1 i2 i3 : Addr} (S : ZipSep3 z TI TO i1 i2 i3 [i1, a] [i2, b] [i3, d]) (n1 : a ≠ i1) (n2 : b ≠ i2) (n3 : d ≠ i3) (z1 : z ≠ i1) (z2 : z ≠ i2) (z3 : z ≠ i3) :
    Turn P w K (.Tuple elts kk tpos) (ItzK3 ta tb tc K a b d) [z, TI, TO, i1, i2, i3] z (fun i h => IsZip h z TI TO .none ∧ IsTupOf3 h TI (.ref i1) (.ref i2) (.ref i3) ∧ (∃ x y u, IsTupOf3 h TO x y u) ∧ IterK ta h i1 a i ∧ IterK tb h i2 b i ∧ IterK tc h i3 d i) where
  mem := by simp
  obj := fun i h st c hc => by
    obtain ⟨hz, hTI, ⟨x, y, u, hTO⟩, h1, h2, h3⟩ := st
    have e' : c = z ∨ c = TI ∨ c = TO ∨ c = i1 ∨ c = i2 ∨ c = i3 := by simpa using hc
    rcases e' with q | q | q | q | q | q
    · rw [q]; exact ⟨_, hz, fun v q => nomatch q⟩
    · rw [q]; exact ⟨_, hTI, fun v q => nomatch q⟩
    · rw [q]; exact ⟨_, hTO, fun v q => nomatch q⟩
    · rw [q]; exact h1.obj
    · rw [q]; exact h2.obj
    · rw [q]; exact h3.obj
  keep := fun i h h' st k => by
    obtain ⟨hz, hTI, ⟨x, y, u, hTO⟩, h1, h2, h3⟩ := st
    exact ⟨k z (by simp) _ hz, k TI (by simp) _ hTI, ⟨x, y, u, k TO (by simp) _ hTO⟩, h1.at fun o q => k i1 (by simp) o q, h2.at fun o q => k i2 (by simp) o q, h3.at fun o q => k i3 (by simp) o q⟩
  item := by
    intro X hP hw hK hc i pins s σ H E I hf st hg
    subst hP hw hK
    obtain ⟨hz, hTI, ⟨x0, y0, u0, hTO⟩, h1, h2, h3⟩ := st
    obtain ⟨xs, ys, zs, x, y, t, hqx, hqy, hqz, hx, hy, ht⟩ := hg
    obtain ⟨its, rv, p⟩ := seqK ta I hqx
    obtain ⟨its2, rv2, p2⟩ := seqK tb I hqy
    obtain ⟨its3, rv3, p3⟩ := seqK tc I hqz
    obtain ⟨u, hu, ru⟩ := rv.get hx
    obtain ⟨u2, hu2, ru2⟩ := rv2.get hy
    obtain ⟨u3, hu3, ru3⟩ := rv3.get ht
    have hzl : z < s.heap.objs.size := Heap.lt_size hz
    obtain ⟨o1, e1, _⟩ := h1.obj
    obtain ⟨o2, e2, _⟩ := h2.obj
    obtain ⟨o3, e3, _⟩ := h3.obj
    have b1 : i < its.length := by rcases Nat.lt_or_ge i its.length with q | q; exact q; rw [List.getElem?_eq_none q] at hu; cases hu
    have b2 : i < its2.length := by rcases Nat.lt_or_ge i its2.length with q | q; exact q; rw [List.getElem?_eq_none q] at hu2; cases hu2
    have b3 : i < its3.length := by rcases Nat.lt_or_ge i its3.length with q | q; exact q; rw [List.getElem?_eq_none q] at hu3; cases hu3
    refine wpAny_pyNext_zipD3_item S (drawsK ta (show X.A.in1.handled = none from I.ok.hd hc) i1 a n1 its.toArray) (drawsK tb (show X.A.in1.handled = none from I.ok.hd hc) i2 b n2 its2.toArray) (drawsK tc (show X.A.in1.handled = none from I.ok.hd hc) i3 d n3 its3.toArray) hz hTI hTO ⟨h1, p⟩ ⟨h2, p2⟩ ⟨h3, p3⟩ (by simpa using b1) (by simpa using b2) (by simpa using b3) fun v v2 v3 h' tk hv hv2 hv3 z' TO' d1 d2 d3 hT hsz hk => ?_
    have ev : v = u := by
      have : its[i]? = some v := by simpa using hv
      rw [hu] at this; cases this; rfl
    have ev2 : v2 = u2 := by
      have : its2[i]? = some v2 := by simpa using hv2
      rw [hu2] at this; cases this; rfl
    have ev3 : v3 = u3 := by
      have : its3[i]? = some v3 := by simpa using hv3
      rw [hu3] at this; cases this; rfl
    subst ev ev2 ev3
    refine ⟨_, rfl, wpAny_letOwnedTupleGo_zip (s := { s with heap := h', toks := tk }) z' fun h'' z'' sb => ?_⟩
    have hT2 : h''.get? s.heap.objs.size = some { cls := .type "tuple", data := .seq #[v, v2, v3] } := (sb.2 _ (Nat.ne_of_gt hzl)).trans hT
    have new : ObjOk X.prog X.w (upd H s.heap.objs.size (.tup [x, y, t])) h'' s.heap.objs.size (.tup [x, y, t]) :=
      ⟨by show 3 ≤ sizeLine; decide, [v, v2, v3], .cons ru (.cons ru2 (.cons ru3 .nil)), ⟨_, hT2, rfl, _, rfl⟩⟩
    have I1 : Inv X pins σ (upd H s.heap.objs.size (.tup [x, y, t])) { s with heap := h'', toks := tk } :=
      I.turnedNew (t' := tk) (ch := [z, TI, TO, i1, i2, i3]) (fun c o hb q => (sb.2 c (fun q' => hb (by simp [q']))).trans (hk c o (fun q' => hb (by simp [q'])) (fun q' => hb (by simp [q'])) (fun q' => hb (by simp [q'])) (fun q' => hb (by simp [q'])) (fun q' => hb (by simp [q'])) q)) hf (Nat.le_refl _) new
    refine ⟨.ref s.heap.objs.size, _, I1, rfl, ⟨_, x, y, t, rfl, I.hok.fresh (Nat.le_refl _), rfl, fun l hl => by rw [injK I hl hqx]; exact hx, fun l hl => by rw [injK I hl hqy]; exact hy, fun l hl => by rw [injK I hl hqz]; exact ht⟩, ⟨z'', ?_, ⟨v, v2, v3, ?_⟩, ?_, ?_, ?_⟩, fun c hcm => ?_⟩
    · exact (sb.2 _ S.TIz).trans (hk _ _ S.TIz S.TITO S.TIi1 S.TIi2 S.TIi3 hTI)
    · exact (sb.2 _ S.TOz).trans TO'
    · exact d1.1.at fun o q => (sb.2 _ (fun e => z1 e.symm)).trans q
    · exact d2.1.at fun o q => (sb.2 _ (fun e => z2 e.symm)).trans q
    · exact d3.1.at fun o q => (sb.2 _ (fun e => z3 e.symm)).trans q
    · have hlt : c < s.heap.objs.size := by
        have e' : c = z ∨ c = TI ∨ c = TO ∨ c = i1 ∨ c = i2 ∨ c = i3 := by simpa using hcm
        rcases e' with q | q | q | q | q | q
        · rw [q]; exact hzl
        · rw [q]; exact Heap.lt_size hTI
        · rw [q]; exact Heap.lt_size hTO
        · rw [q]; exact Heap.lt_size e1
        · rw [q]; exact Heap.lt_size e2
        · rw [q]; exact Heap.lt_size e3
      rw [upd_ne (Nat.ne_of_lt hlt)]
      exact (hf c hcm).1
  done := by
    intro X hP hw hK hc i pins s σ H E I hf st hg
    subst hP hw hK
    obtain ⟨hz, hTI, ⟨x0, y0, u0, hTO⟩, h1, h2, h3⟩ := st
    obtain ⟨xs, ys, zs, hqx, hqy, hqz, hend⟩ := hg
    obtain ⟨its, rv, p⟩ := seqK ta I hqx
    obtain ⟨its2, rv2, p2⟩ := seqK tb I hqy
    obtain ⟨its3, rv3, p3⟩ := seqK tc I hqz
    have l1 := rv.length
    have l2 := rv2.length
    have l3 := rv3.length
    refine wpAny_pyNext_zipD3_end S (drawsK ta (show X.A.in1.handled = none from I.ok.hd hc) i1 a n1 its.toArray) (drawsK tb (show X.A.in1.handled = none from I.ok.hd hc) i2 b n2 its2.toArray) (drawsK tc (show X.A.in1.handled = none from I.ok.hd hc) i3 d n3 its3.toArray) hz hTI hTO ⟨h1, p⟩ ⟨h2, p2⟩ ⟨h3, p3⟩ ?_ ?_ ?_ ?_ fun h' tk hk => ⟨rfl, I.turnedL (t' := tk) (ch := [z, TI, TO, i1, i2, i3]) (fun c o hb q =>
      hk c o (fun q' => hb (by simp [q'])) (fun q' => hb (by simp [q'])) (fun q' => hb (by simp [q'])) (fun q' => hb (by simp [q'])) (fun q' => hb (by simp [q'])) q) hf⟩
    · show i ≤ its.toArray.size
      rw [List.size_toArray]; omega
    · show i ≤ its2.toArray.size
      rw [List.size_toArray]; omega
    · show i ≤ its3.toArray.size
      rw [List.size_toArray]; omega
    · show i = its.toArray.size ∨ i = its2.toArray.size ∨ i = its3.toArray.size
      rw [List.size_toArray, List.size_toArray, List.size_toArray]; omega
  self := fun A i s Q E st h => wpAny_pyIter_zip st.1 h
def iZipK3 (K : PySem.W.Frag) (t : TA) : TI := fun σ H R => t σ H fun vs H1 => ∃ ta tb tc a b d xs ys zs, vs = [.ref a, .ref b, .ref d] ∧ SqK ta K H1 a xs ∧ SqK tb K H1 b ys ∧ SqK tc K H1 d zs ∧ R (ItzK3 ta tb tc K a b d) H1
theorem pi_zipK3 {X : Cx} {e e2 e3 : Expr} {t : TA} {p pos tpos : Pos} {elts : List Expr} {kk : Nat} (hg : Gl X "zip") (hm : X.mg "zip" = none) (ha : PA X [e, e2, e3] t)
    (hs : starEach [e, e2, e3] X.env = (false, eval e X.env) :: starEach [e2, e3] X.env := by rfl) (hpl : (backTo pos (starEach [e2, e3] X.env)).any (·.1) = false := by rfl) :
    PI X (.Tuple elts kk tpos) (.Call (.Name "zip" p) [e, e2, e3] [] pos) (iZipK3 X.K t) := by
  refine ⟨fun pins s σ H R I h => ?_⟩
  refine Call_ (ld_blt I hg hm PyProof.Rows.boot_zip (PyProof.Rows.callWith_type1 (thn (ha.run pos pins s σ H _ I h) fun us s1 ⟨vs, H1, I1, r1, q1⟩ => ?_) hs hpl))
  obtain ⟨ta, tb, tc, a, b, d, xs, ys, zs, ex, hqx, hqy, hqz, q⟩ := q1
  subst ex
  cases r1 with
  | cons r rr =>
    cases rr with
    | cons r' rr =>
      cases rr with
      | cons r'' rr =>
        cases rr
        cases r
        cases r'
        cases r''
        have fresh6 : ∀ c, c ∈ [s1.heap.objs.size + 5, s1.heap.objs.size + 3, s1.heap.objs.size + 4, s1.heap.objs.size, s1.heap.objs.size + 1, s1.heap.objs.size + 2] → FpOk X pins H1 c := fun c hcm => by
          have e' : c = s1.heap.objs.size + 5 ∨ c = s1.heap.objs.size + 3 ∨ c = s1.heap.objs.size + 4 ∨ c = s1.heap.objs.size ∨ c = s1.heap.objs.size + 1 ∨ c = s1.heap.objs.size + 2 := by simpa using hcm
          have hle : s1.heap.objs.size ≤ c := by
            rcases e' with z | z | z | z | z | z <;> rw [z] <;> first | exact Nat.le_add_right _ _ | exact Nat.le_refl _
          exact I1.fpOk hle (I1.hok.fresh hle)
        obtain ⟨its, rv, p1⟩ := seqK ta I1 hqx
        obtain ⟨its2, rv2, p2⟩ := seqK tb I1 hqy
        obtain ⟨its3, rv3, p3⟩ := seqK tc I1 hqz
        have la := p1.lt
        have lb := p2.lt
        have lc := p3.lt
        refine zip_begins3 (beginsK ta a its.toArray) (beginsK tb b its2.toArray) (beginsK tc d its3.toArray) p1 p2 p3 fun h' hz hTI hTO g1 g2 g3 hsz hk => wpAny_pyIter_zip hz ?_
        have I2 : Inv X pins σ H1 { s1 with heap := h' } := I1.kept (t' := s1.toks) hk
        exact ⟨s1.heap.objs.size + 5, [s1.heap.objs.size + 5, s1.heap.objs.size + 3, s1.heap.objs.size + 4, s1.heap.objs.size, s1.heap.objs.size + 1, s1.heap.objs.size + 2], _, _, H1, rfl, I2,
          turn_zipK3 (zip_sep3 (fun c h => by rw [List.mem_singleton.mp h]; exact la) (fun c h => by rw [List.mem_singleton.mp h]; exact lb) (fun c h => by rw [List.mem_singleton.mp h]; exact lc)) (Nat.ne_of_lt la) (Nat.ne_of_lt (Nat.lt_succ_of_lt lb)) (Nat.ne_of_lt (Nat.lt_succ_of_lt (Nat.lt_succ_of_lt lc))) (by show s1.heap.objs.size + 5 ≠ s1.heap.objs.size; omega) (by show s1.heap.objs.size + 5 ≠ s1.heap.objs.size + 1; omega) (by show s1.heap.objs.size + 5 ≠ s1.heap.objs.size + 2; omega),
          ⟨hz, hTI, ⟨_, _, _, hTO⟩, .new g1, .new g2, .new g3⟩, fresh6, q⟩
/-! the readings -/
theorem walk_zipK {K : PySem.W.Frag} {ta tb : Bool} {a b : Addr} {xs ys : List V} {n : Nat} (hn : n = min xs.length ys.length) : Walk (ItzK ta tb K a b) n (fun H => SqK ta K H a xs ∧ SqK tb K H b ys) (YPair (fun i => xs[i]?) (fun i => ys[i]?)) := by
  subst hn
  refine ⟨fun i _ hi q => ?_, fun _ q => ⟨xs, ys, q.1, q.2, rfl⟩, fun i H v H' _ q y => ?_⟩
  · have h1 : i < xs.length := by omega
    have h2 : i < ys.length := by omega
    exact ⟨xs, ys, xs[i], ys[i], q.1, q.2, by simp [h1], by simp [h2]⟩
  · obtain ⟨T, x, z, h1, h2, h3, h4, h5⟩ := y
    exact ⟨T, x, z, h1, h2, h3, h4 xs q.1, h5 ys q.2⟩
def YTrip (xs ys zs : Nat → Option V) : Nat → Hp → V → Hp → Prop := fun i H v H' => ∃ T x y z, v = .ref T ∧ H T = none ∧ H' = upd H T (.tup [x, y, z]) ∧ xs i = some x ∧ ys i = some y ∧ zs i = some z
theorem walk_zipK3 {K : PySem.W.Frag} {ta tb tc : Bool} {a b d : Addr} {xs ys zs : List V} {n : Nat} (hn : n = min xs.length (min ys.length zs.length)) : Walk (ItzK3 ta tb tc K a b d) n (fun H => SqK ta K H a xs ∧ SqK tb K H b ys ∧ SqK tc K H d zs) (YTrip (fun i => xs[i]?) (fun i => ys[i]?) (fun i => zs[i]?)) := by
  subst hn
  refine ⟨fun i _ hi q => ?_, fun _ q => ⟨xs, ys, zs, q.1, q.2.1, q.2.2, rfl⟩, fun i H v H' _ q y => ?_⟩
  · have h1 : i < xs.length := by omega
    have h2 : i < ys.length := by omega
    have h3 : i < zs.length := by omega
    exact ⟨xs, ys, zs, xs[i], ys[i], zs[i], q.1, q.2.1, q.2.2, by simp [h1], by simp [h2], by simp [h3]⟩
  · obtain ⟨T, x, z, t, h1, h2, h3, h4, h5, h6⟩ := y
    exact ⟨T, x, z, t, h1, h2, h3, h4 xs q.1, h5 ys q.2.1, h6 zs q.2.2⟩
theorem seqK_same {t : Bool} {K : PySem.W.Frag} {F F' : Hp} {a : Addr} {xs : List V} (s : Same F F') (h : SqK t K F a xs) : SqK t K F' a xs := by
  cases t
  · exact s.seq h
  · exact sqT_same s h
theorem sqD_inv {K : PySem.W.Frag} {F : Hp} {v : V} {d : D} {xs : List D} (r : Rep K F v d) (h : sqD d = some xs) : ∃ t a vs, v = .ref a ∧ SqK t K F a vs ∧ Reps K F vs xs := by
  unfold sqD at h
  split at h
  · cases h
    obtain ⟨a, vs, rfl, ha, ra⟩ := r.tup_inv
    exact ⟨true, a, vs, rfl, ha, ra⟩
  · cases h
    obtain ⟨a, vs, rfl, ha, ra⟩ := r.lst_inv
    exact ⟨false, a, vs, rfl, SqL.of ha, ra⟩
  · cases h
theorem zip3D_len : ∀ xs ys zs : List D, (zip3D xs ys zs).length = min xs.length (min ys.length zs.length)
  | [], _, _ => by simp [zip3D]
  | _ :: _, [], _ => by simp [zip3D]
  | _ :: _, _ :: _, [] => by simp [zip3D]
  | x :: xs, y :: ys, z :: zs => by
    unfold zip3D
    rw [List.length_cons, List.length_cons, List.length_cons, List.length_cons, zip3D_len xs ys zs]; omega
theorem zip3D_get : ∀ (xs ys zs : List D) (i : Nat) (x y z : D), xs[i]? = some x → ys[i]? = some y → zs[i]? = some z → (zip3D xs ys zs)[i]? = some (.tup [x, y, z])
  | [], _, _, _, _, _, _, h, _, _ => by simp at h
  | _ :: _, [], _, _, _, _, _, _, h, _ => by simp at h
  | _ :: _, _ :: _, [], _, _, _, _, _, _, h => by simp at h
  | a :: xs, b :: ys, c :: zs, 0, x, y, z, h, h2, h3 => by simp at h h2 h3; subst h h2 h3; rfl
  | a :: xs, b :: ys, c :: zs, i + 1, x, y, z, h, h2, h3 => by
    unfold zip3D
    rw [List.getElem?_cons_succ] at h h2 h3 ⊢
    exact zip3D_get xs ys zs i x y z h h2 h3
theorem it_zipG3 {K : PySem.W.Frag} {F : Hp} {xs ys zs : List V} {ds es fs : List D} {J : It} {G : Hp → Prop} (r1 : Reps K F xs ds) (r2 : Reps K F ys es) (r3 : Reps K F zs fs) (w : Walk J (zip3D ds es fs).length G (YTrip (fun i => xs[i]?) (fun i => ys[i]?) (fun i => zs[i]?))) (g : ∀ H, Same F H → G H) : IterOk K F (zip3D ds es fs) J :=
  ⟨G, _, w, g, fun i H F2 x H' hi s s2 y => by
    obtain ⟨T, u, v, t, rfl, hT, rfl, h1, h2, h3⟩ := y
    obtain ⟨d, hd, rd⟩ := r1.get h1
    obtain ⟨e, he, re⟩ := r2.get h2
    obtain ⟨f, hf, rf⟩ := r3.get h3
    have g := Grow.new (o := HO.tup [u, v, t]) s2 hT
    have s3 := s.trans g.ff
    exact ⟨_, _, g, zip3D_get _ _ _ _ _ _ _ hd he hf, .tup (SqT.of upd_same) (.cons (rd.mono s3) (.cons (re.mono s3) (.cons (rf.mono s3) .nil)))⟩⟩
section
variable {X : Cx}
theorem i_zip {tg : Expr} {ma mb : ME} {e : Expr} (h : PI X tg e (iZipK X.K (tCons (rd X.K ma) (tCons (rd X.K mb) tNil)))) : PI X tg e (rdI X.K fun ρ C P => ma ρ C fun x ρ1 C1 => mb ρ1 C1 fun y ρ2 C2 => ∃ xs ys, sqD x = some xs ∧ sqD y = some ys ∧ P (zipD xs ys) ρ2 C2) := pi_weak h fun σ H R ⟨B, F, ρ, C, P, Rl, m, k⟩ =>
  ⟨B, F, ρ, C, _, Rl, m, fun x ρ1 C1 F1 v1 H1 s1 R1 r1 q1 => ⟨B, F1, ρ1, C1, _, R1, q1, fun y ρ2 C2 F2 v2 H2 s2 R2 r2 q2 => by
    obtain ⟨xs, ys, e1, e2, q2⟩ := q2
    obtain ⟨t1, a, vs, rfl, ha, ra⟩ := sqD_inv (r1.mono s2) e1
    obtain ⟨t2, b, ws, rfl, hb, rb⟩ := sqD_inv r2 e2
    refine ⟨t1, t2, a, b, vs, ws, rfl, seqK_same R2.ce.fh ha, seqK_same R2.ce.fh hb, k _ ρ2 C2 F2 _ H2 (s1.trans s2) R2 (it_zipG ra rb (walk_zipK ?_) fun H s => ⟨seqK_same s ha, seqK_same s hb⟩) q2⟩
    rw [zipD_len, ra.length, rb.length]⟩⟩
theorem i_zip3 {tg : Expr} {ma mb mc : ME} {e : Expr} (h : PI X tg e (iZipK3 X.K (tCons (rd X.K ma) (tCons (rd X.K mb) (tCons (rd X.K mc) tNil))))) : PI X tg e (rdI X.K fun ρ C P => ma ρ C fun x ρ1 C1 => mb ρ1 C1 fun y ρ2 C2 => mc ρ2 C2 fun z ρ3 C3 => ∃ xs ys zs, sqD x = some xs ∧ sqD y = some ys ∧ sqD z = some zs ∧ P (zip3D xs ys zs) ρ3 C3) := pi_weak h fun σ H R ⟨B, F, ρ, C, P, Rl, m, k⟩ =>
  ⟨B, F, ρ, C, _, Rl, m, fun x ρ1 C1 F1 v1 H1 s1 R1 r1 q1 => ⟨B, F1, ρ1, C1, _, R1, q1, fun y ρ2 C2 F2 v2 H2 s2 R2 r2 q2 => ⟨B, F2, ρ2, C2, _, R2, q2, fun z ρ3 C3 F3 v3 H3 s3 R3 r3 q3 => by
    obtain ⟨xs, ys, zs, e1, e2, e3, q3⟩ := q3
    obtain ⟨t1, a, vs, rfl, ha, ra⟩ := sqD_inv (r1.mono (s2.trans s3)) e1
    obtain ⟨t2, b, ws, rfl, hb, rb⟩ := sqD_inv (r2.mono s3) e2
    obtain ⟨t3, d, us, rfl, hd, rd⟩ := sqD_inv r3 e3
    refine ⟨t1, t2, t3, a, b, d, vs, ws, us, rfl, seqK_same R3.ce.fh ha, seqK_same R3.ce.fh hb, seqK_same R3.ce.fh hd, k _ ρ3 C3 F3 _ H3 (s1.trans (s2.trans s3)) R3 (it_zipG3 ra rb rd (walk_zipK3 ?_) fun H s => ⟨seqK_same s ha, seqK_same s hb, seqK_same s hd⟩) q3⟩
    rw [zip3D_len, ra.length, rb.length, rd.length]⟩⟩⟩
end
/-! chains of three -/
def tChain3 (r r' r'' : R2) (ta tb tc td : TE) : TE := fun σ H Q => ta σ H fun x H1 => tb σ H1 fun y H2 => r x y H2 fun z H3 => ∃ k, z = .bl k ∧
  (if k = true then tc σ H3 fun w' H4 => r' y w' H4 fun z' H5 => ∃ k', z' = .bl k' ∧ (if k' = true then td σ H5 fun u' H6 => r'' w' u' H6 Q else Q (.bl false) H5) else Q (.bl false) H3)
section
variable {X : Cx} {a b d f : Expr} {pos : Pos}
theorem pe_chain3 {op op' op'' : CmpOp} {r r' r'' : R2} {ta tb tc td : TE} (ho : OpR X (compareOp op) r) (ho' : OpR X (compareOp op') r') (ho'' : OpR X (compareOp op'') r'') (ha : PE X a ta) (hb : PE X b tb) (hc : PE X d tc) (hd : PE X f td)
    (hm : lastMarks [op, op', op''] [b, d, f] = false) : PE X (.Compare a [op, op', op''] [b, d, f] pos) (tChain3 r r' r'' ta tb tc td) := by
  refine ⟨fun pins s σ H Q I h => ?_⟩
  refine Compare_chain (thn (ha.run pins s σ H _ I h) fun v s1 ⟨x, H1, I1, r1, q1⟩ => chain_link (thn (hb.run pins s1 σ H1 _ I1 q1) fun u s2 ⟨y, H2, I2, r2, q2⟩ =>
    thn (ho pins s2 σ H2 x y v u _ I2 r1 r2 q2) fun d s3 ⟨z, H3, I3, r3, k, e, q3⟩ => ?_)) hm
  subst e
  cases r3
  refine wpAny_truthy_bool ?_
  cases k with
  | false => exact ite_ff ⟨.bl false, H3, I3, rfl, q3⟩
  | true =>
    refine ite_tt (chain_link (thn (hc.run pins s3 σ H3 _ I3 q3) fun w' s4 ⟨z', H4, I4, r4, q4⟩ => thn (ho' pins s4 σ H4 y z' u w' _ I4 r2 r4 q4) fun d5 s5 ⟨z5, H5, I5, r5, k5, e5, q5⟩ => ?_))
    subst e5
    cases r5
    refine wpAny_truthy_bool ?_
    cases k5 with
    | false => exact ite_ff ⟨.bl false, H5, I5, rfl, q5⟩
    | true => exact ite_tt (chain_last (thn (hd.run pins s5 σ H5 _ I5 q5) fun w6 s6 ⟨z6, H6, I6, r6, q6⟩ => ho'' pins s6 σ H6 z' z6 w' w6 Q I6 r4 r6 q6))
theorem e_chn3 {r r' r'' : D → D → (Bool → Prop) → Prop} {ma mb mc md : ME} {e : Expr} (h : PE X e (tChain3 (lift2 X.K fun d e P => r d e fun b => P (.bl b)) (lift2 X.K fun d e P => r' d e fun b => P (.bl b)) (lift2 X.K fun d e P => r'' d e fun b => P (.bl b)) (rd X.K ma) (rd X.K mb) (rd X.K mc) (rd X.K md))) :
    PE X e (rd X.K fun ρ C P => ma ρ C fun x ρ1 C1 => mb ρ1 C1 fun y ρ2 C2 => r x y fun k => if k = true then mc ρ2 C2 fun z ρ3 C3 => r' y z fun k' => if k' = true then md ρ3 C3 fun u ρ4 C4 => r'' z u fun k'' => P (.bl k'') ρ4 C4 else P (.bl false) ρ3 C3 else P (.bl false) ρ2 C2) :=
  pe_weak h fun σ H Q ⟨B, F, ρ, C, P, R, m, k⟩ =>
  ⟨B, F, ρ, C, _, R, m, fun x ρ1 C1 F1 v1 H1 s1 R1 r1 q1 => ⟨B, F1, ρ1, C1, _, R1, q1, fun y ρ2 C2 F2 v2 H2 s2 R2 r2 q2 =>
    ⟨F2, x, y, blP fun k => if k = true then mc ρ2 C2 fun z ρ3 C3 => r' y z fun k' => if k' = true then md ρ3 C3 fun u ρ4 C4 => r'' z u fun k'' => P (.bl k'') ρ4 C4 else P (.bl false) ρ3 C3 else P (.bl false) ρ2 C2, R2.ce.fh, r1.mono s2, r2, q2, fun d F3 v3 H3 g r3 p3 => by
      obtain ⟨b, rfl, rfl, p3⟩ := blP_inv r3 p3
      refine ⟨b, rfl, ?_⟩
      cases b with
      | false => exact k _ ρ2 C2 F3 _ H3 (s1.trans (s2.trans g.ff)) (R2.grow g) (.bl _) p3
      | true => exact ⟨B, F3, ρ2, C2, _, R2.grow g, p3, fun z ρ3 C3 F4 v4 H4 s4 R4 r4 q4 => ⟨F4, y, z, blP fun k' => if k' = true then md ρ3 C3 fun u ρ4 C4 => r'' z u fun k'' => P (.bl k'') ρ4 C4 else P (.bl false) ρ3 C3, R4.ce.fh, (r2.mono g.ff).mono s4, r4, q4, fun d F5 v5 H5 g5 r5 p5 => by
          obtain ⟨b, rfl, rfl, p5⟩ := blP_inv r5 p5
          refine ⟨b, rfl, ?_⟩
          cases b with
          | false => exact k _ ρ3 C3 F5 _ H5 (s1.trans (s2.trans (g.ff.trans (s4.trans g5.ff)))) (R4.grow g5) (.bl _) p5
          | true => exact ⟨B, F5, ρ3, C3, _, R4.grow g5, p5, fun u ρ6 C6 F6 v6 H6 s6 R6 r6 q6 => ⟨F6, z, u, blP fun k'' => P (.bl k'') ρ6 C6, R6.ce.fh, (r4.mono g5.ff).mono s6, r6, q6, fun d F7 v7 H7 g7 r7 p7 => by
              obtain ⟨b, rfl, rfl, p7⟩ := blP_inv r7 p7
              exact k _ ρ6 C6 F7 _ H7 (s1.trans (s2.trans (g.ff.trans (s4.trans (g5.ff.trans (s6.trans g7.ff)))))) (R6.grow g7) (.bl _) p7⟩⟩⟩⟩⟩⟩⟩
/-! a display of texts, asked at once -/
def dlkT (kvs : List (String × String)) : List (TE × TE) := kvs.map fun p => (tC (.str (Str.ofString p.1)), tC (.str (Str.ofString p.2)))
theorem tPairs_const : ∀ (kvs : List (String × String)) (σ : L2.St) (H : Hp) (Q : List (V × V) → Hp → Prop), Q (kvs.map fun p => (V.str (Str.ofString p.1), V.str (Str.ofString p.2))) H → tPairs (dlkT kvs) σ H Q
  | [], _, _, _, q => q
  | p :: kvs, σ, H, Q, q => tPairs_const kvs σ H _ q
theorem upd_upd {H : Hp} {p : Addr} {o o' : HO} : upd (upd H p o) p o' = upd H p o' := by
  funext a
  by_cases q : a = p
  · subst q; rw [upd_same, upd_same]
  · rw [upd_ne q, upd_ne q, upd_ne q]
theorem e_dlk {kvs : List (String × String)} {ma : ME} {e : Expr} (hl : kvs.length ≤ 15) (h : PE X e (tDGet (tDisp (dlkT kvs)) (rd X.K ma))) :
    PE X e (rd X.K fun ρ C P => ma ρ C fun x ρ1 C1 => match x with | .str s => ∃ y, dlkAt kvs s = some (.str y) ∧ P (.str y) ρ1 C1 | _ => False) := pe_weak h fun σ H Q ⟨B, F, ρ, C, P, R, m, k⟩ => by
  intro p hp
  refine tPairs_const kvs σ _ _ ⟨upd_same, kvs.map (fun q => (Sum.inr (Str.ofString q.1), V.str (Str.ofString q.2))), ?_, by rw [List.length_map]; exact hl, ?_⟩
  · rw [List.map_map]; rfl
  · rw [upd_upd]
    have g := Grow.new (o := HO.dK (mergeK [] (kvs.map (fun q => (Sum.inr (Str.ofString q.1), V.str (Str.ofString q.2)))))) R.ce.fh hp
    refine ⟨B, _, ρ, C, _, R.grow g, m, fun x ρ1 C1 F1 v1 H1 s1 R1 r1 q1 => ?_⟩
    try dsimp only at q1
    split at q1
    · rename_i s
      obtain ⟨y, e1, q1⟩ := q1
      cases r1
      refine ⟨p, .str y, rfl, .inl ⟨_, Sum.inr s, .inl (R1.ce.fh _ _ (s1 _ _ upd_same)), rfl, ?_⟩, k _ ρ1 C1 F1 _ H1 (g.ff.trans s1) R1 (.str _) q1⟩
      exact e1.symm
    · exact q1.elim
end
end M61

set_option Elab.async false
set_option linter.all false
set_option autoImplicit false
set_option maxRecDepth 100000
/-! M4h: dicts of written text keys, kept in cells. -/
namespace M61
open PySem PySem.Spec PyProof.Rows L2
/-! ### p is let go of -/
def wo (F : Hp) (p : Addr) : Hp := fun b => if b = p then none else F b
theorem wo_ne {F : Hp} {p b : Addr} (h : b ≠ p) : wo F p b = F b := if_neg h
theorem wo_self {F : Hp} {p : Addr} : wo F p p = none := if_pos rfl
theorem wo_some {F : Hp} {p b : Addr} {o : HO} (h : wo F p b = some o) : b ≠ p ∧ F b = some o := by
  by_cases q : b = p
  · rw [q, wo_self] at h; cases h
  · rw [wo_ne q] at h; exact ⟨q, h⟩
theorem wo_none {F : Hp} {p b : Addr} (h : F b = none) : wo F p b = none := by
  by_cases q : b = p
  · rw [q]; exact wo_self
  · rw [wo_ne q]; exact h
section
variable {K : PySem.W.Frag} {F : Hp} {p : Addr}
theorem rd_wo {u : HO} {a : Addr} (hp : F p = some (HO.dK [])) (hu : ∀ kvs, u ≠ HO.dK kvs) (h : L2.Rd F a u) : L2.Rd (wo F p) a u := by
  rcases h with h | ⟨o, h⟩
  · refine .inl ?_
    rw [wo_ne]
    · exact h
    · intro e; rw [e, hp] at h; exact hu _ (Option.some.inj h).symm
  · refine .inr ⟨o, ?_⟩
    rw [wo_ne]
    · exact h
    · intro e; rw [e, hp] at h; cases h
theorem sqT_wo {a : Addr} {xs : List V} (hp : F p = some (HO.dK [])) (h : SqT K F a xs) : SqT K (wo F p) a xs := h.imp (rd_wo hp (fun _ e => by cases e)) id
theorem sqL_wo {a : Addr} {xs : List V} (hp : F p = some (HO.dK [])) (h : SqL K F a xs) : SqL K (wo F p) a xs := h.imp (rd_wo hp (fun _ e => by cases e)) id
theorem wo_at {b : Addr} {o : HO} (hp : F p = some (HO.dK [])) (h : F b = some o) (n : o ≠ HO.dK []) : wo F p b = some o := by
  rw [wo_ne]
  · exact h
  · intro e; rw [e, hp] at h; exact n (Option.some.inj h).symm
theorem CapsF.wo {f : Addr} {cl : List (Str × Addr)} {fr : List Str} {vs : List V} (hp : F p = some (HO.dK [])) (h : CapsF F f cl fr vs) : CapsF (M61.wo F p) f cl fr vs :=
  ⟨h.len, h.inj, fun y c e => by obtain ⟨o, v, a, b⟩ := h.all y c e; exact ⟨o, v, wo_at hp a (fun z => by cases z), b⟩, fun i y e => by obtain ⟨c, o, v, u, a, b, r⟩ := h.has i y e; exact ⟨c, o, v, u, a, wo_at hp b (fun z => by cases z), r⟩⟩
mutual
theorem Rep.wo (hp : F p = some (HO.dK [])) : ∀ {v : V} {d : D}, Rep K F v d → Rep K (M61.wo F p) v d
  | _, _, .non => .non
  | _, _, .bl b => .bl b
  | _, _, .int i => .int i
  | _, _, .str x => .str x
  | _, _, .tup h r => .tup (sqT_wo hp h) (Reps.wo hp r)
  | _, _, .lst (a := a) h r => .lst (by
      rw [wo_ne]
      · exact h
      · intro e; rw [e, hp] at h; cases h) (Reps.wo hp r)
  | _, _, .scr h r => .scr (sqL_wo hp h) (Reps.wo hp r)
  | _, _, .ref a => .ref a
  | _, _, .dic (u := u) h d => .dic (by
      rw [wo_ne]
      · exact h
      · intro e; rw [e, hp] at h; cases h; exact absurd rfl d) d
  | _, _, .clo n h1 h2 c r => .clo n (wo_at hp h1 (fun z => by unfold NdefX.FnO at z; cases z)) (wo_at hp h2 (fun z => by unfold LamX.CodeO at z; cases z)) (c.wo hp) (Reps.wo hp r)
  | _, _, .opn n h1 h2 => .opn n (wo_at hp h1 (fun z => by unfold NdefX.FnO at z; cases z)) (wo_at hp h2 (fun z => by unfold LamX.CodeO at z; cases z))
theorem Reps.wo (hp : F p = some (HO.dK [])) : ∀ {vs : List V} {ds : List D}, Reps K F vs ds → Reps K (M61.wo F p) vs ds
  | _, _, .nil => .nil
  | _, _, .cons r t => .cons (Rep.wo hp r) (Reps.wo hp t)
end
theorem RepKV.wo (hp : F p = some (HO.dK [])) : ∀ {vs ds}, RepKV K F vs ds → RepKV K (M61.wo F p) vs ds
  | _, _, .nil => .nil
  | _, _, .cons r t => .cons (r.wo hp) (RepKV.wo hp t)
theorem RepKT.wo (hp : F p = some (HO.dK [])) : ∀ {vs ds}, RepKT K F vs ds → RepKT K (M61.wo F p) vs ds
  | _, _, .nil => .nil
  | _, _, .cons r t => .cons (r.wo hp) (RepKT.wo hp t)
theorem RepFs.wo (hp : F p = some (HO.dK [])) : ∀ {vs ds}, RepFs K F vs ds → RepFs K (M61.wo F p) vs ds
  | _, _, .nil => .nil
  | _, _, .cons r t => .cons (r.wo hp) (RepFs.wo hp t)
end
/-- a frozen empty dict becomes a cell -/
theorem Rel.dctCell {K : PySem.W.Frag} {B : Base} {F H : Hp} {σ : L2.St} {ρ : Rho} {C : CM} {p : Addr} {kvs : List (L2.Key × V)} {ds : List (L2.Key × D)} (R : Rel K B F σ H ρ C) (hp : F p = some (HO.dK [])) (hB : B.H p = none) (hF : B.F p = none) (rk : RepKV K F kvs ds) :
    Rel K B (wo F p) σ (upd H p (.dK kvs)) ρ (fun b => if b = p then some (.dct ds) else C b) ∧ C p = none := by
  have hC : C p = none := by
    cases e : C p with
    | none => rfl
    | some c => obtain ⟨_, n⟩ := R.ce.cel p c e; rw [hp] at n; cases n
  have hH := R.ce.fh _ _ hp
  refine ⟨⟨R.len, ⟨fun b o q => ?_, fun b c q => ?_, (R.ce.tb.upd fun u hu => by rw [hH] at hu; cases hu; trivial).ext (fun c q h => wo_at hp h fun z => by unfold LamX.CodeO at z; cases z) (fun _ _ _ n => wo_none n) fun _ _ h => h⟩, ⟨fun b o q => ?_, fun b o q => ?_, fun b o q q2 nt => ?_, fun b c q => ?_, fun b o q => ?_⟩, fun i d q => ?_, fun i xs q => ?_, R.dis⟩, hC⟩
  · obtain ⟨n, q⟩ := wo_some q
    rw [upd_ne n]; exact R.ce.fh b o q
  · by_cases e : b = p
    · subst e
      rw [if_pos rfl] at q
      cases q
      exact ⟨⟨kvs, upd_same, rk.wo hp⟩, wo_self⟩
    · rw [if_neg e] at q
      obtain ⟨r, n⟩ := R.ce.cel b c q
      refine ⟨?_, wo_none n⟩
      cases c with
      | lst xs => obtain ⟨vs, h1, h2⟩ := r; exact ⟨vs, by rw [upd_ne e]; exact h1, h2.wo hp⟩
      | dct xs => obtain ⟨vs, h1, h2⟩ := r; exact ⟨vs, by rw [upd_ne e]; exact h1, h2.wo hp⟩
      | dtp xs => obtain ⟨vs, h1, h2⟩ := r; exact ⟨vs, by rw [upd_ne e]; exact h1, h2.wo hp⟩
      | ins cls xs => obtain ⟨cad, dx, vs, n, h1, h2⟩ := r; exact ⟨cad, dx, vs, n, by rw [upd_ne e]; exact h1, h2.wo hp⟩
  · rw [wo_ne]
    · exact R.fr.ff b o q
    · intro e; rw [e, hF] at q; cases q
  · obtain ⟨n, q⟩ := wo_some q
    exact R.fr.fnew b o q
  · rw [upd_ne]
    · exact R.fr.frame b o q q2 nt
    · intro e; rw [e, hB] at q; cases q
  · by_cases e : b = p
    · subst e; exact .inr hB
    · exact R.fr.cnew b c (by have : (if b = p then some (Cell.dct ds) else C b) = some c := q; rwa [if_neg e] at this)
  · by_cases e : b = p
    · subst e; exact ⟨_, upd_same⟩
    · rw [upd_ne e]; exact R.fr.stay b o q
  · obtain ⟨v, h1, h2⟩ := R.dat i d q
    exact ⟨v, h1, h2.wo hp⟩
  · obtain ⟨a, vs, h1, h2, h3, n1, n2, n3⟩ := R.own i xs q
    have e : a ≠ p := fun e => by rw [e, hp] at n1; cases n1
    exact ⟨a, vs, h1, by rw [upd_ne e]; exact h2, h3.wo hp, wo_none n1, by show (if a = p then _ else C a) = none; rw [if_neg e]; exact n2, n3⟩
/-! ### displays -/
def chainM : List ME → ML
  | [], ρ, C, P => P [] ρ C
  | m :: ms, ρ, C, P => m ρ C fun x ρ1 C1 => chainM ms ρ1 C1 fun xs ρ2 C2 => P (x :: xs) ρ2 C2
def pairsT (K : PySem.W.Frag) : List String → List ME → List (TE × TE)
  | k :: ks, m :: ms => (tC (.str (Str.ofString k)), rd K m) :: pairsT K ks ms
  | _, _ => []
theorem keyed_len {α : Type} : ∀ (ks : List String) (xs : List α), (keyed ks xs).length ≤ ks.length
  | [], _ => Nat.zero_le _
  | _ :: _, [] => Nat.zero_le _
  | k :: ks, x :: xs => Nat.succ_le_succ (keyed_len ks xs)
theorem keyed_rep {K : PySem.W.Frag} {F : Hp} : ∀ (ks : List String) {vs : List V} {ds : List D}, Reps K F vs ds → RepKV K F (keyed ks vs) (keyed ks ds)
  | [], _, _, _ => .nil
  | _ :: _, _, _, .nil => .nil
  | _ :: ks, _, _, .cons r t => .cons r (keyed_rep ks t)
theorem tPairs_rd {K : PySem.W.Frag} : ∀ (ks : List String) (ms : List ME), ks.length = ms.length → ∀ {B : Base} {F : Hp} {ρ : Rho} {C : CM} {σ : L2.St} {H : Hp} {P : List D → Rho → CM → Prop} {Q : List (V × V) → Hp → Prop}, Rel K B F σ H ρ C → chainM ms ρ C P →
    (∀ ds ρ1 C1 F1 vs H1, Same F F1 → Rel K B F1 σ H1 ρ1 C1 → Reps K F1 vs ds → P ds ρ1 C1 → Q ((keyed ks vs).map fun kv => (kV kv.1, kv.2)) H1) → tPairs (pairsT K ks ms) σ H Q
  | [], [], _, B, F, ρ, C, σ, H, P, Q, R, m, k => k [] ρ C F [] H (Same.refl _) R .nil m
  | k0 :: ks, m0 :: ms, e, B, F, ρ, C, σ, H, P, Q, R, m, k => by
    refine ⟨B, F, ρ, C, _, R, m, fun d ρ1 C1 F1 v H1 s1 R1 r1 q1 => ?_⟩
    refine tPairs_rd ks ms (Nat.succ.inj e) R1 q1 fun ds ρ2 C2 F2 vs H2 s2 R2 r2 q2 => ?_
    exact k (d :: ds) ρ2 C2 F2 (v :: vs) H2 (s1.trans s2) R2 (.cons (r1.mono s2) r2) q2
theorem merge_nodup : ∀ (more kvs : List (L2.Key × V)), ((kvs ++ more).map (·.1)).Nodup → mergeK kvs more = kvs ++ more
  | [], kvs, _ => by rw [List.append_nil]; rfl
  | kv :: more, kvs, h => by
    show mergeK (putK kvs kv.1 kv.2) more = _
    have hn : (kvs.any fun p => decide (p.1 = kv.1)) = false := by
      rw [List.any_eq_false]
      intro p hp
      rw [decide_eq_true_eq]
      intro e
      rw [List.map_append, List.map_cons, List.nodup_append] at h
      exact h.2.2 p.1 (List.mem_map.mpr ⟨p, hp, rfl⟩) kv.1 List.mem_cons_self e
    have e : putK kvs kv.1 kv.2 = kvs ++ [kv] := by unfold putK; rw [hn]; rfl
    rw [e, merge_nodup more (kvs ++ [kv]) (by rw [List.append_assoc]; exact h), List.append_assoc]; rfl
theorem keyed_keys {α β : Type} : ∀ (ks : List String) (xs : List α) (ys : List β), xs.length = ys.length → (keyed ks xs).map (·.1) = (keyed ks ys).map (·.1)
  | [], _, _, _ => rfl
  | _ :: _, [], [], _ => rfl
  | _ :: ks, _ :: xs, _ :: ys, h => by
    show _ :: (keyed ks xs).map (·.1) = _ :: (keyed ks ys).map (·.1)
    rw [keyed_keys ks xs ys (Nat.succ.inj h)]
section
variable {X : Cx}
theorem e_celd {ks : List String} {ms : List ME} {e : Expr} (hl : ks.length ≤ 15) (hm : ks.length = ms.length) (h : PE X e (tDisp (pairsT X.K ks ms))) :
    PE X e (rd X.K fun ρ C P => chainM ms ρ C fun ds ρ1 C1 => ((keyed ks ds).map (·.1)).Nodup ∧ ∀ a, C1 a = none → P (.ref a) ρ1 (fun b => if b = a then some (.dct (keyed ks ds)) else C1 b)) := pe_weak h fun σ H Q ⟨B, F, ρ, C, P, R, m, k⟩ => by
  intro p hp
  have g := Grow.new (o := HO.dK []) R.ce.fh hp
  have hB := R.base_none hp
  have hF : B.F p = none := by
    cases e : B.F p with
    | none => rfl
    | some o => have := R.ce.fh _ _ (R.fr.ff _ _ e); rw [hp] at this; cases this
  refine tPairs_rd ks ms hm (R.grow g) m fun ds ρ1 C1 F1 vs H1 s1 R1 r1 ⟨nd, q⟩ => ?_
  have hp1 := s1 _ _ (upd_same (H := F) (a := p) (o := HO.dK []))
  refine ⟨R1.ce.fh _ _ hp1, keyed ks vs, rfl, Nat.le_trans (keyed_len ks vs) hl, ?_⟩
  rw [merge_nodup (keyed ks vs) [] (by rw [List.nil_append, keyed_keys ks vs ds r1.length]; exact nd), List.nil_append]
  obtain ⟨R2, hC⟩ := R1.dctCell hp1 hB hF (keyed_rep ks r1)
  refine k (.ref p) ρ1 _ (wo F1 p) (.ref p) _ (fun b o q => ?_) R2 (.ref p) (q p hC)
  rw [wo_ne]
  · exact s1 _ _ (g.ff _ _ q)
  · intro e
    rw [e] at q
    have := R.ce.fh _ _ q
    rw [hp] at this; cases this
theorem RepKV.at {K : PySem.W.Frag} {F : Hp} {k : L2.Key} {d : D} : ∀ {vs ds}, RepKV K F vs ds → dctAt ds k = some d → ∃ v, valV vs k = some v ∧ Rep K F v d
  | _, _, .nil, h => by cases h
  | _, _, .cons (k := k') (v := v) (d := d') (vs := vs) (ds := ds) r t, h => by
    by_cases e : k' = k
    · have : dctAt ((k', d') :: ds) k = some d' := by unfold dctAt; rw [List.find?_cons, decide_eq_true e]; rfl
      rw [this] at h
      cases h
      exact ⟨v, valV_pos e, r⟩
    · have : dctAt ((k', d') :: ds) k = dctAt ds k := by unfold dctAt; rw [List.find?_cons, decide_eq_false e]
      rw [this] at h
      obtain ⟨v', h1, h2⟩ := RepKV.at t h
      exact ⟨v', by rw [valV_neg e]; exact h1, h2⟩
theorem RepKV.any {K : PySem.W.Frag} {F : Hp} (k : L2.Key) : ∀ {vs ds}, RepKV K F vs ds → (vs.any fun kv => decide (kv.1 = k)) = (ds.any fun kv => decide (kv.1 = k))
  | _, _, .nil => rfl
  | _, _, .cons r t => by rw [List.any_cons, List.any_cons, RepKV.any k t]
theorem RepKV.map {K : PySem.W.Frag} {F : Hp} {k : L2.Key} {v : V} {d : D} (r0 : Rep K F v d) : ∀ {vs ds}, RepKV K F vs ds → RepKV K F (vs.map fun kv => if kv.1 = k then (kv.1, v) else kv) (ds.map fun kv => if kv.1 = k then (kv.1, d) else kv)
  | _, _, .nil => .nil
  | _, _, .cons (k := k') r t => by
    rw [List.map_cons, List.map_cons]
    by_cases e : k' = k
    · rw [if_pos e, if_pos e]; exact .cons r0 (RepKV.map r0 t)
    · rw [if_neg e, if_neg e]; exact .cons r (RepKV.map r0 t)
theorem RepKV.snoc {K : PySem.W.Frag} {F : Hp} {k : L2.Key} {v : V} {d : D} (r0 : Rep K F v d) : ∀ {vs ds}, RepKV K F vs ds → RepKV K F (vs ++ [(k, v)]) (ds ++ [(k, d)])
  | _, _, .nil => .cons r0 .nil
  | _, _, .cons r t => .cons r (RepKV.snoc r0 t)
theorem RepKV.put {K : PySem.W.Frag} {F : Hp} {k : L2.Key} {v : V} {d : D} (r0 : Rep K F v d) {vs ds} (r : RepKV K F vs ds) : RepKV K F (putK vs k v) (dctPut ds k d) := by
  unfold putK dctPut
  rw [r.any k]
  split
  · exact r.map r0
  · exact r.snoc r0
theorem RepKV.length {K : PySem.W.Frag} {F : Hp} : ∀ {vs ds}, RepKV K F vs ds → vs.length = ds.length
  | _, _, .nil => rfl
  | _, _, .cons _ t => congrArg (· + 1) (RepKV.length t)
theorem e_dix {k : String} {ma : ME} {e : Expr} (h : PE X e (tDGet (rd X.K ma) (tC (.str (Str.ofString k))))) :
    PE X e (rd X.K fun ρ C P => ma ρ C fun x ρ1 C1 => match x with | .ref p => ∃ kvs d, C1 p = some (.dct kvs) ∧ dctAt kvs (Sum.inr (Str.ofString k)) = some d ∧ P d ρ1 C1 | _ => False) := pe_weak h fun σ H Q ⟨B, F, ρ, C, P, R, m, kk⟩ => by
  refine ⟨B, F, ρ, C, _, R, m, fun x ρ1 C1 F1 v1 H1 s1 R1 r1 q1 => ?_⟩
  try dsimp only at q1
  split at q1
  · rename_i p
    obtain ⟨kvs, d, hc, hd, q1⟩ := q1
    cases r1
    obtain ⟨vs, hl, ra⟩ := (R1.ce.cel _ _ hc).1
    obtain ⟨v, e1, rv⟩ := ra.at hd
    have dg := DGet.k (k := Sum.inr (Str.ofString k)) hl
    rw [e1] at dg
    exact ⟨p, v, rfl, dg, kk d ρ1 C1 F1 v H1 s1 R1 rv q1⟩
  · exact q1.elim
theorem s_dset {k : String} {me mo : ME} {st : Stmt} (h : PS X st (tAsg (rd X.K me) (gSub (rd X.K mo) (tC (.str (Str.ofString k))) rSetD))) :
    PS X st (rdS X.K fun A ρ C => me ρ C fun d ρ1 C1 => mo ρ1 C1 fun x ρ2 C2 => match x with
    | .ref p => ∃ kvs, C2 p = some (.dct kvs) ∧ kvs.length < sizeLine ∧ A.nx ρ2 (fun b => if b = p then some (.dct (dctPut kvs (Sum.inr (Str.ofString k)) d)) else C2 b)
    | _ => False) := ps_weak h fun D σ H ⟨B, F, ρ, C, A, R, m, k1, _⟩ =>
  ⟨B, F, ρ, C, _, R, m, fun d ρ1 C1 F1 v1 H1 s1 R1 r1 q1 => ⟨B, F1, ρ1, C1, _, R1, q1, fun x ρ2 C2 F2 v2 H2 s2 R2 r2 q2 => by
    try dsimp only at q2
    split at q2
    · rename_i p
      cases r2
      obtain ⟨kvs, hc, hn, q2⟩ := q2
      obtain ⟨vs, hl, ra⟩ := (R2.ce.cel _ _ hc).1
      exact ⟨p, _, rfl, DPut.k (k := Sum.inr (Str.ofString k)) hl (by rw [ra.length]; exact hn), k1 _ _ F2 σ _ (s1.trans s2) (R2.mutCell (c' := .dct (dctPut kvs (Sum.inr (Str.ofString k)) d)) hc ⟨_, upd_same, ra.put (r1.mono s2)⟩) q2⟩
    · exact q2.elim⟩⟩
/-- {} -/
theorem e_edic {e : Expr} (h : PE X e (fun σ H Q => ∀ p, H p = none → Q (.ref p) (upd H p (.dT [])))) : PE X e (rd X.K fun ρ C P => P .dic ρ C) := pe_weak h fun σ H Q ⟨B, F, ρ, C, P, R, m, k⟩ => fun p hp => by
  have g := Grow.new (o := HO.dT []) R.ce.fh hp
  exact k .dic ρ C _ (.ref p) _ g.ff (R.grow g) (.dic upd_same trivial) m
/-- a frozen empty dict is filled -/
theorem Rel.dicF {K : PySem.W.Frag} {B : Base} {F H : Hp} {σ : L2.St} {ρ : Rho} {C : CM} {p : Addr} {kvs : List (L2.Key × V)} (R : Rel K B F σ H ρ C) (hp : F p = some (HO.dK [])) (hB : B.H p = none) (hF : B.F p = none) :
    Rel K B (upd F p (.dK kvs)) σ (upd H p (.dK kvs)) ρ C := by
  have hs : Same (M61.wo F p) (upd F p (.dK kvs)) := fun b o q => by
    obtain ⟨n, q⟩ := wo_some q
    rw [upd_ne n]; exact q
  have ne : ∀ {b : Addr}, F b = none → b ≠ p := fun q e => by rw [e, hp] at q; cases q
  refine ⟨R.len, ⟨fun b o q => ?_, fun b c q => ?_, (R.ce.tb.upd (o := .dK kvs) fun u hu => by rw [R.ce.fh _ _ hp] at hu; cases hu; trivial).ext (fun c q h => hs _ _ (wo_at hp h fun z => by unfold LamX.CodeO at z; cases z)) (fun P ps h n => by rw [upd_ne (fun z => by rw [z, hp] at n; cases n)]; exact n) fun _ _ h => h⟩, ⟨fun b o q => ?_, fun b o q => ?_, fun b o q q2 nt => ?_, fun b c q => R.fr.cnew b c q, fun b o q => ?_⟩, fun i d q => ?_, fun i xs q => ?_, R.dis⟩
  · by_cases e : b = p
    · subst e; rw [upd_same] at q ⊢; exact q
    · rw [upd_ne e] at q ⊢; exact R.ce.fh b o q
  · obtain ⟨r, n⟩ := R.ce.cel b c q
    have e := ne n
    refine ⟨?_, by rw [upd_ne e]; exact n⟩
    cases c with
    | lst xs => obtain ⟨vs, h1, h2⟩ := r; exact ⟨vs, by rw [upd_ne e]; exact h1, (h2.wo hp).mono hs⟩
    | dct xs => obtain ⟨vs, h1, h2⟩ := r; exact ⟨vs, by rw [upd_ne e]; exact h1, (h2.wo hp).mono hs⟩
    | dtp xs => obtain ⟨vs, h1, h2⟩ := r; exact ⟨vs, by rw [upd_ne e]; exact h1, (h2.wo hp).mono hs⟩
    | ins cls xs => obtain ⟨cad, dx, vs, n, h1, h2⟩ := r; exact ⟨cad, dx, vs, n, by rw [upd_ne e]; exact h1, (h2.wo hp).mono hs⟩
  · rw [upd_ne]
    · exact R.fr.ff b o q
    · intro e; rw [e, hF] at q; cases q
  · by_cases e : b = p
    · subst e; exact .inr hB
    · rw [upd_ne e] at q; exact R.fr.fnew b o q
  · rw [upd_ne]
    · exact R.fr.frame b o q q2 nt
    · intro e; rw [e, hB] at q; cases q
  · by_cases e : b = p
    · subst e; exact ⟨_, upd_same⟩
    · rw [upd_ne e]; exact R.fr.stay b o q
  · obtain ⟨v, h1, h2⟩ := R.dat i d q
    exact ⟨v, h1, (h2.wo hp).mono hs⟩
  · obtain ⟨a, vs, h1, h2, h3, n1, n2, n3⟩ := R.own i xs q
    have e := ne n1
    exact ⟨a, vs, h1, by rw [upd_ne e]; exact h2, (h3.wo hp).mono hs, by rw [upd_ne e]; exact n1, n2, n3⟩
/-- {k: x}, k written -/
theorem e_ndic {k : L2.Key} {ma : ME} {e : Expr} (h : PE X e (tDisp [(tC (kV k), rd X.K ma)])) : PE X e (rd X.K fun ρ C P => ma ρ C fun _ ρ1 C1 => P .dic ρ1 C1) := pe_weak h fun σ H Q ⟨B, F, ρ, C, P, R, m, kk⟩ => by
  intro p hp
  have g := Grow.new (o := HO.dK []) R.ce.fh hp
  have hB := R.base_none hp
  have hF : B.F p = none := by
    cases e : B.F p with
    | none => rfl
    | some o => have := R.ce.fh _ _ (R.fr.ff _ _ e); rw [hp] at this; cases this
  refine ⟨B, _, ρ, C, _, R.grow g, m, fun d ρ1 C1 F1 v H1 s1 R1 r1 q1 => ?_⟩
  have hp1 := s1 _ _ (upd_same (H := F) (a := p) (o := HO.dK []))
  refine ⟨R1.ce.fh _ _ hp1, [(k, v)], rfl, by show 1 ≤ 15; decide, ?_⟩
  have e1 : mergeK [] [(k, v)] = [(k, v)] := rfl
  rw [e1]
  have R2 := R1.dicF (kvs := [(k, v)]) hp1 hB hF
  refine kk .dic ρ1 C1 _ (.ref p) _ (fun b o q => ?_) R2 (.dic upd_same (by intro z; cases z)) q1
  rw [upd_ne]
  · exact s1 _ _ (g.ff _ _ q)
  · intro e
    rw [e] at q
    have := R.ce.fh _ _ q
    rw [hp] at this; cases this
end
end M61

set_option Elab.async false
set_option linter.all false
set_option autoImplicit false
set_option maxRecDepth 100000
/-! M4i: a list from behind, its last one left out. -/
namespace M61
open PySem PySem.Spec PyProof.Rows L2
theorem bounds_2 (n : Nat) (h : 1 ≤ n) : sliceBounds (some (-2)) none (some (-1)) n = (((n - 1 : Nat) : Int) - 1, -1, -1) := by
  have e : sliceBounds (some (-2)) none (some (-1)) n = (max (-1) (min ((-2 : Int) + n) ((n : Int) - 1)), -1, -1) := by
    simp [sliceBounds]
  rw [e]
  congr 1
  omega
theorem filter_none {α : Type} (xs : Array α) (f : Nat → Option α) (l : List Nat) (h : ∀ k ∈ l, f k = xs[k]?) : l.filterMap f = l.filterMap (xs[·]?) := by
  induction l with
  | nil => rfl
  | cons k l ih =>
    rw [List.filterMap_cons, List.filterMap_cons, h k List.mem_cons_self, ih fun j hj => h j (List.mem_cons_of_mem _ hj)]
theorem pick_2 (items : Array Value) : slicePick items (some (-2)) none (some (-1)) = ((items.toList.take (items.size - 1)).reverse).toArray := by
  by_cases h : 1 ≤ items.size
  · unfold slicePick
    rw [bounds_2 _ h]
    show ((sliceRange (((items.size - 1 : Nat) : Int) - 1) (-1) (-1)).filterMap (items[·]?)).toArray = _
    rw [PySem.W.krv_sliceRange, PySem.W.krv_range, List.filterMap_reverse]
    congr 2
    have e := PySem.W.krv_all (items.extract 0 (items.size - 1))
    have hs : (items.extract 0 (items.size - 1)).size = items.size - 1 := by rw [Array.size_extract]; omega
    rw [hs] at e
    rw [← filter_none items ((items.extract 0 (items.size - 1))[·]?) (List.range (items.size - 1)) (fun k hk => ?_), e]
    · rw [Array.toList_extract]
      simp [List.extract]
    · have hk := List.mem_range.mp hk
      show (items.extract 0 (items.size - 1))[k]? = items[k]?
      rw [Array.getElem?_eq_getElem (by omega), Array.getElem?_eq_getElem (by omega), Array.getElem_extract]
      simp
  · have hz : items = #[] := Array.eq_empty_of_size_eq_zero (by omega)
    subst hz
    rfl
/-- a value's list from behind, the last one left out -/
def tRev2 (K : PySem.W.Frag) (te : TE) : TE := fun σ H Q => te σ H fun x H1 => ∃ a xs, x = .ref a ∧ SqL K H1 a xs ∧ ∀ p, H1 p = none → Q (.ref p) (upd H1 p (.lst (xs.take (xs.length - 1)).reverse))
section
variable {X : Cx}
theorem neg_part {i : Int} {k : Nat} {p1 p2 : Pos} : PO X (some (.UnaryOp .USub (.Constant (.int i) k p1) p2)) (tPart (tUn (rU fun i => .int (-i)) (tC (.int i)))) := po_some (pe_un un_neg pe_int)
theorem pe_rev2 {e : Expr} {te : TE} {k k' : Nat} {p1 p2 p3 q1 q2 pos : Pos} (he : PE X e te) : PE X (.Subscript e (.Slice (some (.UnaryOp .USub (.Constant (.int 2) k' q1) q2)) none (some (.UnaryOp .USub (.Constant (.int 1) k p1) p2)) p3) pos) (tRev2 X.K te) := ⟨fun pins s σ H Q I h => by
  refine Subscript_ (thn (he.run pins s σ H _ I h) fun v s1 ⟨x, H1, I1, r1, a, xs, ex, hx, q⟩ => ?_)
  subst ex
  cases r1
  refine wpAny_Slice (thn (neg_part.run pins s1 σ H1 (fun o G => o = some (-2) ∧ G = H1) I1 ⟨2, rfl, -2, rfl, rfl, rfl⟩) fun vl s2 ⟨_, _, I2, pl, el, eh⟩ => ?_)
  cases el; cases eh
  refine thn (po_none.run pins s2 σ H1 (fun o G => o = none ∧ G = H1) I2 ⟨rfl, rfl⟩) fun vu s3 ⟨_, _, I3, pu, el, eh⟩ => ?_
  cases el; cases eh
  refine thn (neg_part.run pins s3 σ H1 (fun o G => o = some (-1) ∧ G = H1) I3 ⟨1, rfl, -1, rfl, rfl, rfl⟩) fun vs s4 ⟨_, _, I4, ps, el, eh⟩ => ?_
  cases el; cases eh
  have I5 : Inv X pins σ H1 { s4 with heap := s4.heap.push { cls := .type "slice", data := .fields #[vl, vu, vs] } } := I4.kept (t' := s4.toks) fun b ob q => Heap.get?_push_of_some _ q
  obtain ⟨its, r, ht, hz⟩ := I5.list hx
  have hlen := r.length
  refine tail_any (ops := [.ref a, .ref s4.heap.objs.size]) ht.isList.typeIs (PySem.slot_list_getitem.lookup) ?_ (by with_unfolding_all rfl)
  refine wpAny_getItem_list_slice ht.isList (Heap.IsSliceOf.new _ vl vu vs) pl pu ps (by decide) ?_ (by rw [List.size_toArray]; omega)
  rw [pick_2]
  have hr : Vals (xs.take (xs.length - 1)).reverse (its.take (its.length - 1)).reverse := by rw [← hlen]; exact (r.take _).reverse
  have I6 := I5.laid (a := (s4.heap.push { cls := .type "slice", data := .fields #[vl, vu, vs] }).objs.size) (t' := s4.toks) (o := .lst (xs.take (xs.length - 1)).reverse) (h' := _) (fun b ob q => Heap.get?_push_of_some (Obj.mk (.type "list") none (.seq ((its.toArray.toList.take (its.toArray.size - 1)).reverse).toArray 0) #[]) q) (Nat.le_refl _) ⟨by rw [List.length_reverse, List.length_take]; omega, _, 0, by
    simpa using hr, Heap.get?_push_size _ rfl⟩
  exact ⟨.ref _, _, I6, rfl, q _ (I5.hok.fresh (Nat.le_refl _))⟩⟩
theorem l_ls2 {ma : ME} {e : Expr} (h : PE X e (tRev2 X.K (rd X.K ma))) : PE X e (rdL X.K fun ρ C P => ma ρ C fun x ρ1 C1 => ∃ xs, lstD C1 x = some xs ∧ P (xs.take (xs.length - 1)).reverse ρ1 C1) := pe_weak h fun σ H Q ⟨B, F, ρ, C, P, R, m, k⟩ =>
  ⟨B, F, ρ, C, _, R, m, fun x ρ1 C1 F1 v1 H1 s1 R1 r1 ⟨xs, hx, q⟩ => by
    obtain ⟨a, vs, rfl, hl, ra⟩ := lstD_rel R1.ce r1 hx
    refine ⟨a, vs, rfl, .of hl, fun p hp => ?_⟩
    obtain ⟨R2, f1, f2, f3, f4⟩ := rel_fresh (vs := (vs.take (vs.length - 1)).reverse) R1 hp
    exact k _ ρ1 C1 F1 p _ _ s1 R2 upd_same (by rw [ra.length]; exact (ra.take _).reverse) f1 f2 f3 f4 q⟩
end
end M61

set_option Elab.async false
set_option linter.all false
set_option autoImplicit false
set_option maxRecDepth 100000
/-! M4j: a tuple of anything beside the empty one. -/
namespace M61
open PySem PySem.Spec PyProof.Rows L2
def rTpe (K : PySem.W.Frag) (f : Bool → Bool) : R2 := fun x y H Q => ∃ a b xs, x = V.ref a ∧ y = V.ref b ∧ SqT K H a xs ∧ SqT K H b [] ∧ Q (.bl (f xs.isEmpty)) H
section
variable {X : Cx}
theorem tup_two {pins : List (Addr × Obj)} {s : Shared} {σ : L2.St} {H : Hp} {a : Addr} {xs : List V} (I : Inv X pins σ H s) (h : SqT X.K H a xs) : ∃ its : List Value, s.heap.IsTuple a its.toArray ∧ (its.toArray.size == 0) = xs.isEmpty := by
  obtain ⟨its, rv, ht, _⟩ := I.tuple h
  refine ⟨its, ht, ?_⟩
  have := rv.length
  cases xs <;> cases its <;> simp at this ⊢
theorem op_tpe (hu : X.A.units < cLine) : OpR X (compareOp .Eq) (rTpe X.K id) := fun pins s σ H x y v u Q I rx ry ⟨a, b, xs, ex, ey, ha, hb, q⟩ => by
  subst ex ey
  cases rx; cases ry
  obtain ⟨i1, t1, z1⟩ := tup_two I ha
  obtain ⟨i2, t2, z2⟩ := tup_two I hb
  have e2 : i2.toArray.size = 0 := by simpa using z2
  refine SeqAt.RcAt.tuples (e := fun _ => true) t1 t2 hu (fun j h1 h2 => by omega) X.prog X.w _ _ ?_
  refine ⟨.bl xs.isEmpty, H, I, ?_, q⟩
  rw [e2, Nat.min_zero, z1]; rfl
theorem op_tpn (hu : X.A.units < cLine) : OpR X (compareOp .NotEq) (rTpe X.K (!·)) := fun pins s σ H x y v u Q I rx ry ⟨a, b, xs, ex, ey, ha, hb, q⟩ => by
  subst ex ey
  cases rx; cases ry
  obtain ⟨i1, t1, z1⟩ := tup_two I ha
  obtain ⟨i2, t2, z2⟩ := tup_two I hb
  have e2 : i2.toArray.size = 0 := by simpa using z2
  refine SeqAt.RcNeAt.tuples (e := fun _ => true) t1 t2 hu (fun j h1 h2 => by omega) X.prog X.w _ _ ?_
  refine ⟨.bl (!xs.isEmpty), H, I, ?_, q⟩
  rw [e2, Nat.min_zero, z1]; rfl
theorem t_tpe {f : Bool → Bool} {ma : ME} {e : Expr} (h : PT X e (tTest (tOp (rTpe X.K f) (rd X.K ma) (tTup tNil)))) :
    PT X e (rdT X.K fun ρ C P => ma ρ C fun x ρ1 C1 => match x with | .tup xs => P (f xs.isEmpty) ρ1 C1 | _ => False) := pt_weak h fun σ H Q ⟨B, F, ρ, C, P, R, m, k⟩ =>
  ⟨B, F, ρ, C, _, R, m, fun x ρ1 C1 F1 v1 H1 s1 R1 r1 q => by
    try dsimp only at q
    split at q
    · rename_i xs
      obtain ⟨a, vs, rfl, ha, ra⟩ := r1.tup_inv
      refine ⟨Nat.zero_le _, fun p hp => ?_⟩
      have g := Grow.new (o := HO.tup []) R1.ce.fh hp
      refine ⟨_, _, _, rfl, rfl, sqT_same (same_upd hp) (sqT_same R1.ce.fh ha), SqT.of upd_same, _, rfl, ?_⟩
      have e : vs.isEmpty = xs.isEmpty := (by have := ra.length; cases vs <;> cases xs <;> simp at this ⊢)
      rw [e]
      exact k _ ρ1 C1 _ _ (s1.trans g.ff) (R1.grow g) q
    · exact q.elim⟩
end
end M61

set_option Elab.async false
set_option linter.all false
set_option autoImplicit false
set_option maxRecDepth 100000
/-! M4k: a list of anything beside the empty one. -/
namespace M61
open PySem PySem.Spec PyProof.Rows L2
def rLse (K : PySem.W.Frag) (f : Bool → Bool) : R2 := fun x y H Q => ∃ a b xs, x = V.ref a ∧ y = V.ref b ∧ SqL K H a xs ∧ SqL K H b [] ∧ Q (.bl (f xs.isEmpty)) H
section
variable {X : Cx}
theorem lst_two {pins : List (Addr × Obj)} {s : Shared} {σ : L2.St} {H : Hp} {a : Addr} {xs : List V} (I : Inv X pins σ H s) (h : SqL X.K H a xs) : ∃ its : List Value, s.heap.IsList a its.toArray ∧ its.length = xs.length := by
  obtain ⟨its, rv, ht, _⟩ := I.list h
  exact ⟨its, ht.isList, rv.length.symm⟩
theorem op_lse (hu : X.A.units < cLine) : OpR X (compareOp .Eq) (rLse X.K id) := fun pins s σ H x y v u Q I rx ry ⟨a, b, xs, ex, ey, ha, hb, q⟩ => by
  subst ex ey
  cases rx; cases ry
  obtain ⟨i1, t1, z1⟩ := lst_two I ha
  obtain ⟨i2, t2, z2⟩ := lst_two I hb
  have e2 : i2.toArray.size = 0 := by simpa using z2
  cases xs with
  | nil =>
    have e1 : i1.toArray.size = 0 := by simpa using z1
    refine SeqAt.RcAt.lists (e := fun _ => true) t1 t2 (by rw [e1, e2]) hu (fun j h1 h2 => by omega) X.prog X.w _ _ ?_
    refine ⟨.bl true, H, I, ?_, q⟩
    rw [e1]; rfl
  | cons x r =>
    have e1 : i1.toArray.size = r.length + 1 := by simpa using z1
    refine SeqAt.RcAt.lists_lengths t1 t2 (by rw [e1, e2]; simp) hu X.prog X.w _ _ ?_
    exact ⟨.bl false, H, I, rfl, q⟩
theorem op_lsn (hu : X.A.units < cLine) : OpR X (compareOp .NotEq) (rLse X.K (!·)) := fun pins s σ H x y v u Q I rx ry ⟨a, b, xs, ex, ey, ha, hb, q⟩ => by
  subst ex ey
  cases rx; cases ry
  obtain ⟨i1, t1, z1⟩ := lst_two I ha
  obtain ⟨i2, t2, z2⟩ := lst_two I hb
  have e2 : i2.toArray.size = 0 := by simpa using z2
  cases xs with
  | nil =>
    have e1 : i1.toArray.size = 0 := by simpa using z1
    refine SeqAt.RcNeAt.lists (e := fun _ => true) t1 t2 (by rw [e1, e2]) hu (fun j h1 h2 => by omega) X.prog X.w _ _ ?_
    refine ⟨.bl false, H, I, ?_, q⟩
    rw [e1]; rfl
  | cons x r =>
    have e1 : i1.toArray.size = r.length + 1 := by simpa using z1
    refine SeqAt.RcNeAt.lists_lengths t1 t2 (by rw [e1, e2]; simp) hu X.prog X.w _ _ ?_
    exact ⟨.bl true, H, I, rfl, q⟩
theorem e_lse {f : Bool → Bool} {ma : ME} {e : Expr} (h : PE X e (tOp (rLse X.K f) (rd X.K ma) (tLst tNil))) :
    PE X e (rd X.K fun ρ C P => ma ρ C fun x ρ1 C1 => ∃ xs, lstD C1 x = some xs ∧ P (.bl (f xs.isEmpty)) ρ1 C1) := pe_weak h fun σ H Q ⟨B, F, ρ, C, P, R, m, k⟩ =>
  ⟨B, F, ρ, C, _, R, m, fun x ρ1 C1 F1 v1 H1 s1 R1 r1 ⟨xs, hx, q⟩ => by
    obtain ⟨a, vs, rfl, hl, ra⟩ := lstD_rel R1.ce r1 hx
    refine ⟨Nat.zero_le _, fun p hp => ?_⟩
    have hs := same_upd (o := HO.lst []) hp
    have R2 := (rel_fresh (vs := []) R1 hp).1
    refine ⟨_, _, _, rfl, rfl, .of (hs _ _ hl), .of upd_same, ?_⟩
    have e : vs.isEmpty = xs.isEmpty := (by have := ra.length; cases vs <;> cases xs <;> simp at this ⊢)
    rw [e]
    exact k _ ρ1 C1 F1 _ _ s1 R2 (.bl _) q⟩
theorem t_lse {f : Bool → Bool} {ma : ME} {e : Expr} (h : PT X e (tTest (tOp (rLse X.K f) (rd X.K ma) (tLst tNil)))) :
    PT X e (rdT X.K fun ρ C P => ma ρ C fun x ρ1 C1 => ∃ xs, lstD C1 x = some xs ∧ P (f xs.isEmpty) ρ1 C1) := pt_weak h fun σ H Q ⟨B, F, ρ, C, P, R, m, k⟩ =>
  ⟨B, F, ρ, C, _, R, m, fun x ρ1 C1 F1 v1 H1 s1 R1 r1 ⟨xs, hx, q⟩ => by
    obtain ⟨a, vs, rfl, hl, ra⟩ := lstD_rel R1.ce r1 hx
    refine ⟨Nat.zero_le _, fun p hp => ?_⟩
    have hs := same_upd (o := HO.lst []) hp
    have R2 := (rel_fresh (vs := []) R1 hp).1
    refine ⟨_, _, _, rfl, rfl, .of (hs _ _ hl), .of upd_same, _, rfl, ?_⟩
    have e : vs.isEmpty = xs.isEmpty := (by have := ra.length; cases vs <;> cases xs <;> simp at this ⊢)
    rw [e]
    exact k _ ρ1 C1 F1 _ s1 R2 q⟩
end
end M61

set_option Elab.async false
set_option linter.all false
set_option autoImplicit false
set_option maxRecDepth 100000
/-! M4l: sorted from the greatest down. -/
namespace M61
open PySem PySem.Spec PyProof.Rows L2
section
variable {X : Cx}
theorem sort_down {a b : List Int} (p : a.Perm b) (h : a.Pairwise (· ≥ ·)) : a = (sortI b).reverse := by
  have h1 : a.reverse.Pairwise (· ≤ ·) := List.pairwise_reverse.mpr h
  have h2 : a.reverse = sortI b := sort_uniq (a.reverse_perm.trans (p.trans (sortI_perm b).symm)) h1 (sortI_sorted b)
  rw [← h2, List.reverse_reverse]
def rDown (K : PySem.W.Frag) (r : D → (List D → Prop) → Prop) : List V → List V → Hp → VK → Prop := fun vs zs H Q => zs = [.bl true] ∧ liftF K r vs H Q
theorem c_sortedR : CallRK X (.builtin "sorted") [Str.ofString "reverse"] (rDown X.K fun d P => match d with | .lst xs => ∃ ns, intsOf xs = some ns ∧ P ((sortI ns).reverse.map D.int) | _ => False) := by
  intro pins s σ H xs zs us ws Q I r rz ⟨ez, F, v, d, P, e, sF, rv, m, k⟩
  subst e ez
  dsimp only at m
  split at m
  · obtain ⟨a, vs, rfl, ha, ra⟩ := rv.lst_inv
    obtain ⟨ns, hn, p⟩ := m
    rw [reps_ints ra hn] at ha
    refine cr_sortedRev (b := true) pins s σ H _ _ us ws Q I r rz ⟨a, ns, rfl, rfl, .of (sF _ _ ha), fun ns' q hp hs hq => ?_⟩
    have e : ns' = (sortI ns).reverse := sort_down hp hs
    rw [e]
    exact k _ q _ hq (rep_ints _) p
  · exact m.elim
theorem l_callK {r : D → (List D → Prop) → Prop} {ma : ME} {e : Expr} (h : PE X e (tCKw (rDown X.K r) (tCons (rd X.K ma) tNil) (tCons (tC (.bl true)) tNil))) : PE X e (rdL X.K fun ρ C P => ma ρ C fun x ρ1 C1 => r x fun ds => P ds ρ1 C1) := pe_weak h fun σ H Q ⟨B, F, ρ, C, P, R, m, k⟩ =>
  ⟨B, F, ρ, C, _, R, m, fun x ρ1 C1 F1 v1 H1 s1 R1 r1 q1 => ⟨rfl, F1, v1, x, _, rfl, R1.ce.fh, r1, q1, fun ds p vs hp rs p3 => by
    obtain ⟨R2, f1, f2, f3, f4⟩ := rel_fresh (vs := vs) R1 hp
    exact k _ ρ1 C1 F1 p vs _ s1 R2 upd_same rs f1 f2 f3 f4 p3⟩⟩
theorem kw_rev {p : Pos} {v : Expr} {kpos : Pos} : (backToKw p (keywordEach [⟨some (Str.ofString "reverse"), v, kpos⟩] X.env)).all (·.1.isSome) = true := rfl
end
end M61

set_option Elab.async false
set_option linter.all false
set_option autoImplicit false
set_option maxRecDepth 100000
/-! M4m: the greatest of numbers or else, great letters, a written dict asked, or by any value, tests of three links, lists made of a cell's numbers, a tuple sorted. -/
namespace M61
open PySem PySem.Spec PyProof.Rows L2
section
variable {X : Cx}
/-! ### max(.., default=..), min(.., default=..) -/
def rMxo (K : PySem.W.Frag) (g : List Int → Int) : List V → List V → Hp → VK → Prop := fun vs zs H Q => ∃ (F : Hp) (v u : V) (x y : D) (C : CM) (P : D → Prop), vs = [v] ∧ zs = [u] ∧ Cells K F H C ∧ Rep K F v x ∧ Rep K F u y ∧
  (∃ xs ns, seqD C x = some xs ∧ intsOf xs = some ns ∧ P (if ns = [] then y else .int (g ns))) ∧ ∀ d v', Rep K F v' d → P d → Q v' H
theorem c_maxo (hc : X.calm = true) (hr : Room 0 X.A) : CallRK X (.builtin "max") [Str.ofString "default"] (rMxo X.K maxI) := by
  intro pins s σ H xs zs us ws Q I r rz ⟨F, v, u, x, y, C, P, e1, e2, ce, r1, r2, ⟨ys, ns, h1, h2, p⟩, k⟩
  subst e1 e2
  have hu : X.A.units + 1 < cLine := by have := hr.un; omega
  obtain ⟨a, rfl, its, hi, hl⟩ := seq_ints I ce r1 h1 h2
  rw [Vals.ref1 r]
  obtain ⟨w1, rfl, rel⟩ := vals1 rz
  have hR := hi.reads s.heap
  have hD : X.A.units + 1 + PyData.depthAll (ns.map PyData.int) < cLine := by rw [depth_ints ns]; exact hu
  have g0 : ns.map PyData.int = [] → ∀ h' tk, (∀ b o, s.heap.get? b = some o → h'.get? b = some o) → EP X pins σ Q w1 { s with heap := h', toks := tk } := fun e h' tk hk => by
    have en : ns = [] := List.map_eq_nil_iff.mp e
    rw [if_pos en] at p
    exact ⟨u, H, I.kept hk, rel, k _ _ r2 p⟩
  have g1 : ∀ (y' : PyData) (ys' : List PyData) (i : Nat) v' h' tk bs, ns.map PyData.int = y' :: ys' → its.toArray[i]? = some v' → Reads h' v' (PySem.W.maxD y' ys') bs → (∀ b o, s.heap.get? b = some o → h'.get? b = some o) → EP X pins σ Q v' { s with heap := h', toks := tk } := fun y' ys' i v' h' tk bs e hv rd hk => by
    cases ns with
    | nil => cases e
    | cons n ns =>
      rw [List.map_cons] at e
      cases e
      rw [PySem.W.maxD_ints] at rd
      obtain ⟨t, rfl, _⟩ := reads_int_inv rd
      rw [if_neg (by simp)] at p
      exact ⟨.int _, H, I.kept hk, ⟨_, rfl⟩, k _ _ (.int _) p⟩
  rcases hl with hl | hl
  · exact PySem.W.max_list_default (I.ok.hd hc) hl (by simpa using hR) (alike_ints ns) hD g0 g1
  · exact PySem.W.max_tuple_default (I.ok.hd hc) hl (by simpa using hR) (alike_ints ns) hD g0 g1
theorem c_mino (hc : X.calm = true) (hr : Room 0 X.A) : CallRK X (.builtin "min") [Str.ofString "default"] (rMxo X.K minI) := by
  intro pins s σ H xs zs us ws Q I r rz ⟨F, v, u, x, y, C, P, e1, e2, ce, r1, r2, ⟨ys, ns, h1, h2, p⟩, k⟩
  subst e1 e2
  have hu : X.A.units + 1 < cLine := by have := hr.un; omega
  obtain ⟨a, rfl, its, hi, hl⟩ := seq_ints I ce r1 h1 h2
  rw [Vals.ref1 r]
  obtain ⟨w1, rfl, rel⟩ := vals1 rz
  have hR := hi.reads s.heap
  have hD : X.A.units + 1 + PyData.depthAll (ns.map PyData.int) < cLine := by rw [depth_ints ns]; exact hu
  have g0 : ns.map PyData.int = [] → ∀ h' tk, (∀ b o, s.heap.get? b = some o → h'.get? b = some o) → EP X pins σ Q w1 { s with heap := h', toks := tk } := fun e h' tk hk => by
    have en : ns = [] := List.map_eq_nil_iff.mp e
    rw [if_pos en] at p
    exact ⟨u, H, I.kept hk, rel, k _ _ r2 p⟩
  have g1 : ∀ (y' : PyData) (ys' : List PyData) (i : Nat) v' h' tk bs, ns.map PyData.int = y' :: ys' → its.toArray[i]? = some v' → Reads h' v' (PySem.W.minD y' ys') bs → (∀ b o, s.heap.get? b = some o → h'.get? b = some o) → EP X pins σ Q v' { s with heap := h', toks := tk } := fun y' ys' i v' h' tk bs e hv rd hk => by
    cases ns with
    | nil => cases e
    | cons n ns =>
      rw [List.map_cons] at e
      cases e
      rw [PySem.W.minD_ints] at rd
      obtain ⟨t, rfl, _⟩ := reads_int_inv rd
      rw [if_neg (by simp)] at p
      exact ⟨.int _, H, I.kept hk, ⟨_, rfl⟩, k _ _ (.int _) p⟩
  rcases hl with hl | hl
  · exact PySem.W.min_list_default (I.ok.hd hc) hl (by simpa using hR) (alike_ints ns) hD g0 g1
  · exact PySem.W.min_tuple_default (I.ok.hd hc) hl (by simpa using hR) (alike_ints ns) hD g0 g1
theorem e_mxo {g : List Int → Int} {ma mb : ME} {e : Expr} (h : PE X e (tCKw (rMxo X.K g) (tCons (rd X.K ma) tNil) (tCons (rd X.K mb) tNil))) :
    PE X e (rd X.K fun ρ C P => ma ρ C fun x ρ1 C1 => mb ρ1 C1 fun y ρ2 C2 => ∃ xs ns, seqD C2 x = some xs ∧ intsOf xs = some ns ∧ P (if ns = [] then y else .int (g ns)) ρ2 C2) := pe_weak h fun σ H Q ⟨B, F, ρ, C, P, R, m, k⟩ =>
  ⟨B, F, ρ, C, _, R, m, fun x ρ1 C1 F1 v1 H1 s1 R1 r1 q1 => ⟨B, F1, ρ1, C1, _, R1, q1, fun y ρ2 C2 F2 v2 H2 s2 R2 r2 q2 =>
    ⟨F2, v1, v2, x, y, C2, fun d => P d ρ2 C2, rfl, rfl, R2.ce, r1.mono s2, r2, q2, fun d v' r' p => k d ρ2 C2 F2 v' H2 (s1.trans s2) R2 r' p⟩⟩⟩
theorem kw_dfl {p : Pos} {v : Expr} {kpos : Pos} : (backToKw p (keywordEach [⟨some (Str.ofString "default"), v, kpos⟩] X.env)).all (·.1.isSome) = true := rfl
/-! ### great letters -/
theorem e_upr {ma : ME} {e : Expr} (h : PE X e (tBM0 X.K "str" (fun x xs H Q => ∃ a, x = .str a ∧ xs = [] ∧ a.length ≤ 5592405 ∧ Q (.str (Txt.upper a)) H) (rd X.K ma))) :
    PE X e (rd X.K fun ρ C P => ma ρ C fun x ρ1 C1 => match x with | .str s => s.length ≤ 5592405 ∧ P (.str (Txt.upper s)) ρ1 C1 | _ => False) := pe_weak h fun σ H Q ⟨B, F, ρ, C, P, R, m, k⟩ =>
  ⟨B, F, ρ, C, _, R, m, fun x ρ1 C1 F1 v1 H1 s1 R1 r1 q1 => by
    try dsimp only at q1
    split at q1
    · rename_i z
      cases r1
      exact ⟨rfl, z, rfl, rfl, q1.1, k _ ρ1 C1 F1 _ H1 s1 R1 (.str _) q1.2⟩
    · exact q1.elim⟩
/-! ### or, by any value -/
theorem e_orv {ma mb : ME} {e : Expr} (h : PE X e (tOrT X.K (rd X.K ma) (rd X.K mb))) :
    PE X e (rd X.K fun ρ C P => ma ρ C fun x ρ1 C1 => truD x fun k => if k = true then P x ρ1 C1 else mb ρ1 C1 P) := pe_weak h fun σ H Q ⟨B, F, ρ, C, P, R, m, k⟩ =>
  ⟨B, F, ρ, C, _, R, m, fun x ρ1 C1 F1 v1 H1 s1 R1 r1 q1 => by
    obtain ⟨b, hb, p⟩ := tru_of R1.ce.fh r1 q1
    refine ⟨b, hb, ?_⟩
    cases b with
    | true => exact k x ρ1 C1 F1 v1 H1 s1 R1 r1 p
    | false => exact ⟨B, F1, ρ1, C1, _, R1, p, fun d ρ2 C2 F2 v2 H2 s2 R2 r2 q2 => k d ρ2 C2 F2 v2 H2 (s1.trans s2) R2 r2 q2⟩⟩
/-! ### tests of three links -/
section
variable {a b d f : Expr} {pos : Pos}
theorem pt_chain3 {op op' op'' : CmpOp} {r r' r'' : R2} {ta tb tc td : TE} (ho : OpR X (compareOp op) r) (ho' : OpR X (compareOp op') r') (ho'' : OpR X (compareOp op'') r'') (ha : PE X a ta) (hb : PE X b tb) (hc : PE X d tc) (hd : PE X f td)
    (hm : lastMarks [op, op', op''] [b, d, f] = false) : PT X (.Compare a [op, op', op''] [b, d, f] pos) (tTest (tChain3 r r' r'' ta tb tc td)) := by
  refine ⟨fun pins s σ H Q I h => ?_⟩
  refine isTrue_chain (thn (ha.run pins s σ H _ I h) fun v1 s1 ⟨x1, H1, I1, r1, q1⟩ => test_link (thn (hb.run pins s1 σ H1 _ I1 q1) fun v2 s2 ⟨x2, H2, I2, r2, q2⟩ =>
    thn (ho pins s2 σ H2 x1 x2 v1 v2 _ I2 r1 r2 q2) fun t1 s3 ⟨y1, H3, I3, r3, k1, e1, q3⟩ => ?_)) hm
  subst e1
  cases r3
  refine wpAny_truthy_bool ?_
  cases k1 with
  | false =>
    obtain ⟨k', e', q'⟩ := q3
    cases e'
    exact ite_ff ⟨H3, I3, q'⟩
  | true =>
    refine ite_tt (test_link (thn (hc.run pins s3 σ H3 _ I3 q3) fun v3 s4 ⟨x3, H4, I4, r4, q4⟩ => thn (ho' pins s4 σ H4 x2 x3 v2 v3 _ I4 r2 r4 q4) fun t2 s5 ⟨y2, H5, I5, r5, k2, e2, q5⟩ => ?_))
    subst e2
    cases r5
    refine wpAny_truthy_bool ?_
    cases k2 with
    | false =>
      obtain ⟨k', e', q'⟩ := q5
      cases e'
      exact ite_ff ⟨H5, I5, q'⟩
    | true =>
      refine ite_tt (test_last (thn (hd.run pins s5 σ H5 _ I5 q5) fun v4 s6 ⟨x4, H6, I6, r6, q6⟩ => thn (ho'' pins s6 σ H6 x3 x4 v3 v4 _ I6 r4 r6 q6) fun t3 s7 ⟨y3, H7, I7, r7, k3, e3, q7⟩ => ?_))
      subst e3
      cases r7
      exact wpAny_truthy_bool ⟨H7, I7, q7⟩
end
theorem t_chn3 {r r' r'' : D → D → (Bool → Prop) → Prop} {ma mb mc md : ME} {e : Expr} (h : PT X e (tTest (tChain3 (lift2 X.K fun d e P => r d e fun b => P (.bl b)) (lift2 X.K fun d e P => r' d e fun b => P (.bl b)) (lift2 X.K fun d e P => r'' d e fun b => P (.bl b)) (rd X.K ma) (rd X.K mb) (rd X.K mc) (rd X.K md)))) :
    PT X e (rdT X.K fun ρ C P => ma ρ C fun x ρ1 C1 => mb ρ1 C1 fun y ρ2 C2 => r x y fun k => if k = true then mc ρ2 C2 fun z ρ3 C3 => r' y z fun k' => if k' = true then md ρ3 C3 fun u ρ4 C4 => r'' z u fun k'' => P k'' ρ4 C4 else P false ρ3 C3 else P false ρ2 C2) :=
  pt_weak h fun σ H Q ⟨B, F, ρ, C, P, R, m, k⟩ =>
  ⟨B, F, ρ, C, _, R, m, fun x ρ1 C1 F1 v1 H1 s1 R1 r1 q1 => ⟨B, F1, ρ1, C1, _, R1, q1, fun y ρ2 C2 F2 v2 H2 s2 R2 r2 q2 =>
    ⟨F2, x, y, blP fun k => if k = true then mc ρ2 C2 fun z ρ3 C3 => r' y z fun k' => if k' = true then md ρ3 C3 fun u ρ4 C4 => r'' z u fun k'' => P k'' ρ4 C4 else P false ρ3 C3 else P false ρ2 C2, R2.ce.fh, r1.mono s2, r2, q2, fun d F3 v3 H3 g r3 p3 => by
      obtain ⟨b, rfl, rfl, p3⟩ := blP_inv r3 p3
      refine ⟨b, rfl, ?_⟩
      cases b with
      | false => exact ⟨false, rfl, k _ ρ2 C2 F3 H3 (s1.trans (s2.trans g.ff)) (R2.grow g) p3⟩
      | true => exact ⟨B, F3, ρ2, C2, _, R2.grow g, p3, fun z ρ3 C3 F4 v4 H4 s4 R4 r4 q4 => ⟨F4, y, z, blP fun k' => if k' = true then md ρ3 C3 fun u ρ4 C4 => r'' z u fun k'' => P k'' ρ4 C4 else P false ρ3 C3, R4.ce.fh, (r2.mono g.ff).mono s4, r4, q4, fun d F5 v5 H5 g5 r5 p5 => by
          obtain ⟨b, rfl, rfl, p5⟩ := blP_inv r5 p5
          refine ⟨b, rfl, ?_⟩
          cases b with
          | false => exact ⟨false, rfl, k _ ρ3 C3 F5 H5 (s1.trans (s2.trans (g.ff.trans (s4.trans g5.ff)))) (R4.grow g5) p5⟩
          | true => exact ⟨B, F5, ρ3, C3, _, R4.grow g5, p5, fun u ρ6 C6 F6 v6 H6 s6 R6 r6 q6 => ⟨F6, z, u, blP fun k'' => P k'' ρ6 C6, R6.ce.fh, (r4.mono g5.ff).mono s6, r6, q6, fun d F7 v7 H7 g7 r7 p7 => by
              obtain ⟨b, rfl, rfl, p7⟩ := blP_inv r7 p7
              exact ⟨b, rfl, k _ ρ6 C6 F7 H7 (s1.trans (s2.trans (g.ff.trans (s4.trans (g5.ff.trans (s6.trans g7.ff)))))) (R6.grow g7) p7⟩⟩⟩⟩⟩⟩⟩⟩
/-! ### a written dict of numbers asked -/
/-- its entries -/
def EntsAre : List (String × Int) → List DictEntry → Prop
  | [], [] => True
  | (k, i) :: r, e :: es => (∃ t, e.key = .str (Str.ofString k) t) ∧ (∃ u, e.val = .int i u) ∧ EntsAre r es
  | _, _ => False
def WDct (K : PySem.W.Frag) (w : World) (a : Addr) (kvs : List (String × Int)) : Prop :=
  ∃ es n, K.lookup a = some ⟨.type "dict", none, .dict es n, #[]⟩ ∧ PySem.W.KeysLit w.params es.toList ∧ (a == sysModules) = false ∧ EntsAre kvs es.toList
/-- what it gives, as a value -/
def ggetV (kvs : List (String × Int)) (s : Str) : V := match (kvs.find? fun kv => decide (Str.ofString kv.1 = s)) with
  | some kv => .int kv.2
  | none => .non
theorem ents_find (s : Str) : ∀ {kvs : List (String × Int)} {es : List DictEntry}, EntsAre kvs es → RelV (ggetV kvs s) (((es.find? fun e => Value.isStrOf s e.key).map (·.val)).getD .none)
  | [], [], _ => rfl
  | (k, i) :: r, e :: es, ⟨⟨t, e1⟩, ⟨u, e2⟩, h⟩ => by
    by_cases q : Str.ofString k = s
    · have h1 : Value.isStrOf s e.key = true := by rw [e1, q]; exact beq_self_eq_true _
      rw [List.find?_cons, h1]
      show RelV (ggetV ((k, i) :: r) s) e.val
      rw [e2, show ggetV ((k, i) :: r) s = V.int i from by unfold ggetV; rw [List.find?_cons, show decide (Str.ofString k = s) = true from decide_eq_true q]]
      exact ⟨u, rfl⟩
    · have h1 : Value.isStrOf s e.key = false := by
        rw [e1]
        show (Str.ofString k == s) = false
        simpa using q
      rw [List.find?_cons, h1]
      rw [show ggetV ((k, i) :: r) s = ggetV r s from by unfold ggetV; rw [List.find?_cons, show decide (Str.ofString k = s) = false from decide_eq_false q]]
      exact ents_find s h
  | [], _ :: _, h => h.elim
  | _ :: _, [], h => h.elim
theorem rep_gget (K : PySem.W.Frag) (F : Hp) (kvs : List (String × Int)) (s : Str) : Rep K F (ggetV kvs s) (ggetD kvs s) := by
  unfold ggetV ggetD
  cases (kvs.find? fun kv => decide (Str.ofString kv.1 = s)) with
  | some kv => exact .int _
  | none => exact .non
def tGGet (kvs : List (String × Int)) (te : TE) : TE := fun σ H Q => te σ H fun y H1 => ∃ z, y = .str z ∧ Q (ggetV kvs z) H1
theorem pe_gget {o e : Expr} {apos cpos : Pos} {kvs : List (String × Int)} {te : TE} {a : Addr} (ho : PE X o (tC (.ref a))) (d : WDct X.K X.w a kvs) (he : PE X e te) (m : M1 X o "get" apos e cpos) : PE X (.Call (.Attribute o "get" apos) [e] [] cpos) (tGGet kvs te) := by
  obtain ⟨es, n, hl, hk, hs, ea⟩ := d
  refine ⟨fun pins s σ H Q I h => ?_⟩
  refine wpAny_Call_method m.base m.few m.line PySem.F.plainAttrs_dict PySem.F.slot_dict_get PySem.F.type_dict_get (thn (ho.run pins s σ H (fun x H1 => x = .ref a ∧ H1 = H) I ⟨rfl, rfl⟩) fun u s1 ⟨x, H1, I1, rx, ex, e1⟩ => ?_)
  subst ex e1
  obtain rfl : u = Value.ref a := rx
  have hm := PySem.W.mapOf_K (prog := X.prog) (w := X.w) I1.kIn hl hk
  refine ⟨hm.typeIs, fun b q => ?_, ?_⟩
  · cases q
    exact ⟨_, I1.kIn _ _ hl, rfl⟩
  rw [m.trees]
  refine Calls.callWith_builtin rfl (Calls.evalArgs_plain (Calls.spliced_cons (thn (he.run pins s1 σ H1 _ I1 h) fun iv s2 ⟨y, H2, I2, ry, z, ez, q2⟩ => Calls.spliced_nil ?_)))
  subst ez
  obtain ⟨t, rfl⟩ := (show ∃ t, iv = Value.str z t from ry)
  have hm2 := PySem.W.mapOf_K (prog := X.prog) (w := X.w) I2.kIn hl hk
  refine call_meetsIn PySem.F.slot_dict_get hm2.typeIs PySem.F.entry_dict_get (PySem.F.args_dict_get_2 _ _) (meets_dict_get (strKind X.prog X.w) a (strKind_is X.prog X.w z t) hs) ⟨_, hm2, ggetV kvs z, H2, I2.tok _, ?_, q2⟩
  have q := ents_find z ea
  unfold findBy
  rw [← Array.find?_toList]
  exact q
theorem e_gget {kvs : List (String × Int)} {ma : ME} {e : Expr} (h : PE X e (tGGet kvs (rd X.K ma))) :
    PE X e (rd X.K fun ρ C P => ma ρ C fun x ρ1 C1 => match x with | .str s => P (ggetD kvs s) ρ1 C1 | _ => False) := pe_weak h fun σ H Q ⟨B, F, ρ, C, P, R, m, k⟩ =>
  ⟨B, F, ρ, C, _, R, m, fun x ρ1 C1 F1 v1 H1 s1 R1 r1 q1 => by
    try dsimp only at q1
    split at q1
    · rename_i z
      cases r1
      exact ⟨z, rfl, k _ ρ1 C1 F1 _ H1 s1 R1 (rep_gget _ _ _ _) q1⟩
    · exact q1.elim⟩
/-! ### a comprehension over a cell's numbers -/
theorem compC_at {a : Addr} {ns : List Int} {turn : D → CM → (Option D → CM → Prop) → Prop} {ds : List Int} {acc : List D} {C : CM} {P : List D → CM → Prop} (h : compGoC a ns turn ds acc C P) : C a = some (.lst (ns.map .int)) := by
  cases ds with
  | nil => exact h.1
  | cons d ds => exact h.1
theorem te_compc {me0 : ME} {tg : Tg} {mc : MT} {me : ME} {vs : List Nat} (hsub : ∀ i ∈ tgSlots tg, i ∈ vs) : ∀ (σ : L2.St) (H : Hp) (Q : VK), rdL X.K (fun ρ C P => me0 ρ C fun x ρ1 C1 => match x with
      | .ref a => ∃ ns : List Int, compGoC a ns (compTurn tg mc me vs ρ1) ns [] C1 fun acc C4 => P acc ρ1 C4
      | _ => False) σ H Q →
    tLc (iSeq X.K (rd X.K me0)) (rg X.K tg) (rdT X.K mc) (rd X.K me) vs σ H Q := fun σ H Q ⟨B, F, ρ, C, P, R, m, k⟩ =>
  ⟨B, F, ρ, C, _, R, m, fun x ρ1 C1 F1 v1 H1 s1 R1 r1 q1 => by
    try dsimp only at q1
    split at q1
    · rename_i a
      obtain ⟨ns, q1⟩ := q1
      cases r1
      have atC : ∀ {F2 : Hp} {H2 : Hp} {C2 : CM}, Cells X.K F2 H2 C2 → C2 a = some (.lst (ns.map .int)) → H2 a = some (HO.lst (ns.map V.int)) ∧ Reps X.K F2 (ns.map V.int) (ns.map .int) := fun ce hc => by
        obtain ⟨us, hl, ra⟩ := (ce.cel _ _ hc).1
        have e := reps_nums ra
        subst e
        exact ⟨hl, ra⟩
      obtain ⟨hl1, ra1⟩ := atC R1.ce (compC_at q1)
      refine ⟨a, ns.map V.int, rfl, .inl ⟨.of hl1, fun D hD => ?_⟩⟩
      have bn := R1.base_none hD
      have no := R1.notOwn_of hD
      have nda : a ≠ D := fun z => by subst z; rw [hl1] at hD; cases hD
      refine lc_it walk_list (fun i H => ∃ F2 C2 acc vacc, Same F1 F2 ∧ Rel X.K B F2 σ H ρ1 C2 ∧ H D = some (HO.lst vacc) ∧ Reps X.K F2 vacc acc ∧ F2 D = none ∧ C2 D = none ∧
        compGoC a ns (compTurn tg mc me vs ρ1) (ns.drop i) acc C2 fun acc C4 => P acc ρ1 C4) ?_ (fun i H _ ⟨F2, C2, acc, vacc, s2, R2, _, _, _, _, q2⟩ => .of (atC R2.ce (compC_at q2)).1) (fun i x H H' hi pv y => ?_) (fun H pv => ?_)
      · obtain ⟨R2, f1, f2, f3, f4⟩ := rel_fresh (vs := []) R1 hD
        exact ⟨F1, C1, [], [], Same.refl _, R2, upd_same, .nil, f1, f2, q1⟩
      · obtain ⟨F2, C2, acc, vacc, s2, R2, hl, ra, n1, n2, q2⟩ := pv
        obtain ⟨F3, d, g, hd, rd⟩ := it_at ra1 s2 R2.ce.fh y
        rw [List.getElem?_map] at hd
        obtain ⟨nd, hnd, rfl⟩ := Option.map_eq_some_iff.mp hd
        have ed : ns.drop i = nd :: ns.drop (i + 1) := by
          obtain ⟨h1, h2⟩ := List.getElem?_eq_some_iff.mp hnd
          rw [← h2]; exact List.drop_eq_getElem_cons h1
        rw [ed] at q2
        have R3 := R2.grow g
        have hl3 : H' D = some (HO.lst vacc) := g.hh _ _ hl
        have n3 : F3 D = none := by
          cases z : F3 D with
          | none => rfl
          | some u =>
            rcases g.fnew D u z with z | z
            · rw [n1] at z; cases z
            · rw [hl] at z; cases z
        have nown : ¬ OwnAt (wipeR ρ1 vs) (wipe σ vs) D := fun ⟨j, ys, q1, q2⟩ => by
          obtain ⟨q3, nj⟩ := wipeR_some q1
          rw [wipe_outS nj] at q2
          exact no j ys q3 q2
        refine ⟨_, F3, wipeR ρ1 vs, C2, .int nd, _, (R3.wiped vs).rebase, rd, q2.2, fun ρ2 σ2 R4 o4 q4 => ?_⟩
        have o5 : σ2.length = σ.length ∧ ∀ i, i ∉ vs → ρ2[i]? = ρ1[i]? ∧ σ2[i]? = σ[i]? := by
          obtain ⟨o1, o2⟩ := o4.mono hsub
          exact ⟨o1.trans (wipe_length _ _), fun i hi => ⟨(o2 i hi).1.trans (wipeR_out hi), (o2 i hi).2.trans (wipe_outS hi)⟩⟩
        refine ⟨wipe_eq o5.1 fun i hi => (o5.2 i hi).2, _, F3, ρ2, C2, _, R4, q4, fun b ρ3 C3 F5 H5 s5 R5 ⟨e3, q5⟩ => ?_⟩
        subst e3
        cases b with
        | false =>
          obtain ⟨k1, k2, k3⟩ := R5.keep hl3 n3 n2 nown
          exact ⟨F5, C3, acc, vacc, s2.trans (g.ff.trans s5), R3.back R5 o5.2, k1, ra.mono (g.ff.trans s5), k2, k3, q5⟩
        | true =>
          refine ⟨_, F5, ρ3, C3, _, R5, q5, fun y ρ4 C4 F6 v6 H6 s6 R6 r6 ⟨e4, q6, q7⟩ => ?_⟩
          subst e4
          obtain ⟨k1, k2, k3⟩ := R6.keep hl3 n3 n2 nown
          have s7 : Same F2 F6 := g.ff.trans (s5.trans s6)
          refine ⟨vacc, k1, by rw [ra.length]; exact q6, F6, C4, acc ++ [y], vacc ++ [v6], s2.trans s7, (R3.back R6 o5.2).updFree k2 k3 bn no (fun u hu => by rw [k1] at hu; cases hu; trivial), upd_same, (ra.mono s7).append (.cons r6 .nil), k2, k3, q7⟩
      · obtain ⟨F2, C2, acc, vacc, s2, R2, hl, ra, n1, n2, q2⟩ := pv
        rw [show ns.drop (ns.map V.int).length = [] by rw [List.length_map, List.drop_length]] at q2
        exact k acc ρ1 C2 F2 D vacc H (s1.trans s2) R2 hl ra n1 n2 bn no q2.2
    · exact q1.elim⟩
end
end M61

set_option Elab.async false
set_option linter.all false
set_option autoImplicit false
set_option maxRecDepth 100000
/-! M4o: instances, their fields and methods; dicts whose keys are tuples. -/
namespace M61
open PySem PySem.Spec PyProof.Rows L2
theorem str_inj {a b : String} (h : Str.ofString a = Str.ofString b) : a = b := by
  rw [Str.ofString_eq_toList, Str.ofString_eq_toList] at h
  injection h with h
  have h2 : a.toList.map Char.toNat = b.toList.map Char.toNat := by simpa using congrArg Array.toList h
  have h3 : a.toList = b.toList := by
    refine List.map_inj_right (f := Char.toNat) (fun x y e => ?_) |>.mp h2
    exact Char.ext (UInt32.toNat_inj.mp e)
  exact String.toList_inj.mp h3
section
variable {K : PySem.W.Frag} {F : Hp}
theorem RepFs.at {k : String} : ∀ {vs : List (Str × V)} {ds : List (String × D)}, RepFs K F vs ds → ∀ {d : D}, fldAt ds k = some d → ∃ v, vs.lookup (Str.ofString k) = some v ∧ Rep K F v d
  | _, _, .nil, _, h => by cases h
  | _, _, .cons (k := k') (v := v) (d := d') (vs := vs) (ds := ds) r t, d, h => by
    by_cases e : k' = k
    · subst e
      have : fldAt ((k', d') :: ds) k' = some d' := by unfold fldAt; rw [List.find?_cons, decide_eq_true rfl]; rfl
      rw [this] at h
      cases h
      exact ⟨v, by rw [List.lookup_cons, beq_self_eq_true], r⟩
    · have : fldAt ((k', d') :: ds) k = fldAt ds k := by unfold fldAt; rw [List.find?_cons, decide_eq_false e]
      rw [this] at h
      obtain ⟨v', h1, h2⟩ := RepFs.at t h
      refine ⟨v', ?_, h2⟩
      rw [List.lookup_cons, show (Str.ofString k == Str.ofString k') = false from by rw [beq_eq_false_iff_ne]; exact fun z => e (str_inj z).symm]
      exact h1
theorem RepFs.no {k : String} : ∀ {vs : List (Str × V)} {ds : List (String × D)}, RepFs K F vs ds → fldAt ds k = none → vs.lookup (Str.ofString k) = none
  | _, _, .nil, _ => rfl
  | _, _, .cons (k := k') (v := v) (d := d') (vs := vs) (ds := ds) r t, h => by
    by_cases e : k' = k
    · subst e
      have : fldAt ((k', d') :: ds) k' = some d' := by unfold fldAt; rw [List.find?_cons, decide_eq_true rfl]; rfl
      rw [this] at h; cases h
    · have : fldAt ((k', d') :: ds) k = fldAt ds k := by unfold fldAt; rw [List.find?_cons, decide_eq_false e]
      rw [this] at h
      rw [List.lookup_cons, show (Str.ofString k == Str.ofString k') = false from by rw [beq_eq_false_iff_ne]; exact fun z => e (str_inj z).symm]
      exact RepFs.no t h
theorem RepFs.put {k : String} {v : V} {d : D} (r0 : Rep K F v d) : ∀ {vs : List (Str × V)} {ds : List (String × D)}, RepFs K F vs ds → RepFs K F (putF (Str.ofString k) v vs) (fldPut k d ds)
  | _, _, .nil => .cons r0 .nil
  | _, _, .cons (k := k') (v := v') (d := d') (vs := vs) (ds := ds) r t => by
    unfold putF fldPut
    by_cases e : k' = k
    · subst e; rw [if_pos rfl, if_pos rfl]; exact .cons r0 t
    · rw [if_neg (fun z => e (str_inj z)), if_neg e]; exact .cons r (RepFs.put r0 t)
theorem RepFs.length : ∀ {vs : List (Str × V)} {ds : List (String × D)}, RepFs K F vs ds → vs.length = ds.length
  | _, _, .nil => rfl
  | _, _, .cons _ t => congrArg (· + 1) (RepFs.length t)
theorem RepKT.at {k : List L2.Key} {d : D} : ∀ {vs ds}, RepKT K F vs ds → dtpAt ds k = some d → ∃ v, valV vs k = some v ∧ Rep K F v d
  | _, _, .nil, h => by cases h
  | _, _, .cons (k := k') (v := v) (d := d') (vs := vs) (ds := ds) r t, h => by
    by_cases e : k' = k
    · have z : dtpAt ((k', d') :: ds) k = some d' := by unfold dtpAt; rw [List.find?_cons, decide_eq_true e]; rfl
      rw [z] at h
      cases h
      exact ⟨v, valV_pos e, r⟩
    · have z : dtpAt ((k', d') :: ds) k = dtpAt ds k := by unfold dtpAt; rw [List.find?_cons, decide_eq_false e]
      rw [z] at h
      obtain ⟨v', h1, h2⟩ := RepKT.at t h
      exact ⟨v', by rw [valV_neg e]; exact h1, h2⟩
theorem RepKT.isS {k : List L2.Key} : ∀ {vs ds}, RepKT K F vs ds → (valV vs k).isSome = (dtpAt ds k).isSome
  | _, _, .nil => rfl
  | _, _, .cons (k := k') (v := v) (d := d') (vs := vs) (ds := ds) r t => by
    by_cases e : k' = k
    · have z : dtpAt ((k', d') :: ds) k = some d' := by unfold dtpAt; rw [List.find?_cons, decide_eq_true e]; rfl
      rw [z, valV_pos e]; rfl
    · have z : dtpAt ((k', d') :: ds) k = dtpAt ds k := by unfold dtpAt; rw [List.find?_cons, decide_eq_false e]
      rw [z, valV_neg e]; exact RepKT.isS t
theorem RepKT.any (k : List L2.Key) : ∀ {vs ds}, RepKT K F vs ds → (vs.any fun kv => decide (kv.1 = k)) = (ds.any fun kv => decide (kv.1 = k))
  | _, _, .nil => rfl
  | _, _, .cons r t => by rw [List.any_cons, List.any_cons, RepKT.any k t]
theorem RepKT.map {k : List L2.Key} {v : V} {d : D} (r0 : Rep K F v d) : ∀ {vs ds}, RepKT K F vs ds → RepKT K F (vs.map fun kv => if kv.1 = k then (kv.1, v) else kv) (ds.map fun kv => if kv.1 = k then (kv.1, d) else kv)
  | _, _, .nil => .nil
  | _, _, .cons (k := k') r t => by
    rw [List.map_cons, List.map_cons]
    by_cases e : k' = k
    · rw [if_pos e, if_pos e]; exact .cons r0 (RepKT.map r0 t)
    · rw [if_neg e, if_neg e]; exact .cons r (RepKT.map r0 t)
theorem RepKT.snoc {k : List L2.Key} {v : V} {d : D} (r0 : Rep K F v d) : ∀ {vs ds}, RepKT K F vs ds → RepKT K F (vs ++ [(k, v)]) (ds ++ [(k, d)])
  | _, _, .nil => .cons r0 .nil
  | _, _, .cons r t => .cons r (RepKT.snoc r0 t)
theorem RepKT.put {k : List L2.Key} {v : V} {d : D} (r0 : Rep K F v d) {vs ds} (r : RepKT K F vs ds) : RepKT K F (putK vs k v) (dtpPut ds k d) := by
  unfold putK dtpPut
  rw [r.any k]
  split
  · exact r.map r0
  · exact r.snoc r0
theorem RepKT.length : ∀ {vs ds}, RepKT K F vs ds → vs.length = ds.length
  | _, _, .nil => rfl
  | _, _, .cons _ t => congrArg (· + 1) (RepKT.length t)
theorem len_le {vs : List V} {ds : List D} (r : Reps K F vs ds) (h : ds.length ≤ 100) : vs.length ≤ sizeLine := by
  rw [r.length]; exact Nat.le_of_lt (small1000 (by omega))
theorem keyOf_vs : ∀ {vs : List V} {ds : List D} {kk : List L2.Key}, Reps K F vs ds → keyOf ds = some kk → vs = kk.map kV
  | _, _, _, .nil, h => by cases h; rfl
  | _, _, kk, .cons (d := d) (ds := ds) r t, h => by
    cases d <;> first | (cases h; done) | skip
    rename_i i
    cases r
    unfold keyOf at h
    cases e : keyOf ds with
    | none => rw [e] at h; cases h
    | some ms =>
      rw [e] at h
      cases h
      rw [keyOf_vs t e]; rfl
end
section
variable {X : Cx}
theorem e_fld {cls f : String} {ma : ME} {e : Expr} (hc : ∀ cad, PySem.W.nsIn X.K mainGlobals (Str.ofString cls) = some (some (.ref cad)) → Cls X.K cad ∧ NoAttr X.K cad (Str.ofString f)) (h : PE X e (tFld X.K (rd X.K ma) (Str.ofString f))) :
    PE X e (rd X.K fun ρ C P => ma ρ C fun x ρ1 C1 => match x with
      | .ref p => ∃ fs d, C1 p = some (.ins cls fs) ∧ fldAt fs f = some d ∧ P d ρ1 C1
      | _ => False) := pe_weak h fun σ H Q ⟨B, F, ρ, C, P, R, m, kk⟩ => by
  refine ⟨B, F, ρ, C, _, R, m, fun x ρ1 C1 F1 v1 H1 s1 R1 r1 q1 => ?_⟩
  try dsimp only at q1
  split at q1
  · rename_i p
    obtain ⟨fs, d, hp, hd, q1⟩ := q1
    cases r1
    obtain ⟨cad, dx, vs, hn, hl, ra⟩ := (R1.ce.cel _ _ hp).1
    obtain ⟨v, e1, rv⟩ := ra.at hd
    obtain ⟨c1, c2⟩ := hc cad hn
    exact ⟨p, cad, dx, vs, v, rfl, hl, c1, c2, e1, kk d ρ1 C1 F1 v H1 s1 R1 rv q1⟩
  · exact q1.elim
theorem s_fset {cls f : String} {ma mb : ME} {st : Stmt} (hc : ∀ cad, PySem.W.nsIn X.K mainGlobals (Str.ofString cls) = some (some (.ref cad)) → Cls X.K cad ∧ NoAttr X.K cad (Str.ofString f)) (h : PS X st (sFld X.K (rd X.K ma) (rd X.K mb) (Str.ofString f))) :
    PS X st (rdS X.K fun A ρ C => mb ρ C fun d ρ1 C1 => ma ρ1 C1 fun x ρ2 C2 => match x with
      | .ref p => ∃ fs, C2 p = some (.ins cls fs) ∧ fs.length < 1000 ∧ A.nx ρ2 (setC C2 p (.ins cls (fldPut f d fs)))
      | _ => False) := ps_weak h fun D σ H ⟨B, F, ρ, C, A, R, m, k1, _⟩ => by
  refine ⟨B, F, ρ, C, _, R, m, fun d ρ1 C1 F1 v1 H1 s1 R1 r1 q1 => ⟨B, F1, ρ1, C1, _, R1, q1, fun x ρ2 C2 F2 v2 H2 s2 R2 r2 q2 => ?_⟩⟩
  try dsimp only at q2
  split at q2
  · rename_i p
    obtain ⟨fs, hp, hlt, q2⟩ := q2
    cases r2
    obtain ⟨cad, dx, vs, hn, hl, ra⟩ := (R2.ce.cel _ _ hp).1
    obtain ⟨c1, c2⟩ := hc cad hn
    exact ⟨p, cad, dx, vs, rfl, hl, c1, c2, by rw [ra.length]; exact hlt, k1 ρ2 _ F2 σ _ (s1.trans s2) (R2.mutCell (c' := .ins cls (fldPut f d fs)) hp ⟨cad, dx, _, hn, upd_same, ra.put (r1.mono s2)⟩) q2⟩
  · exact q2.elim
/-! ### dicts with tuples for keys -/
theorem e_dnt {e : Expr} (h : PE X e tDNewT) : PE X e (rd X.K fun ρ C P => ∀ a, C a = none → P (.ref a) ρ (setC C a (.dtp []))) := pe_weak h fun σ H Q ⟨B, F, ρ, C, P, R, m, k⟩ => fun p hp => by
  have hB := R.base_none hp
  have hC := R.cell_none hp
  have hF : F p = none := same_none R.ce.fh hp
  have no := R.notOwn_of hp
  have R1 := R.updFree (o := HO.dT []) hF hC hB no (fun u hu => by rw [hp] at hu; cases hu)
  refine k (.ref p) ρ _ F (.ref p) _ (Same.refl _) (R1.newCellO (c := .dtp []) ⟨[], upd_same, .nil⟩ hF hB no) (.ref p) (m p hC)
theorem e_dgt {md : ME} {mk : ML} {e : Expr} (h : PE X e (tDGet (rd X.K md) (tTup (rdA X.K mk)))) : PE X e (rd X.K fun ρ C P => md ρ C fun x ρ1 C1 => mk ρ1 C1 fun ks ρ2 C2 => match x with
    | .ref p => ∃ kvs kk v, C2 p = some (.dtp kvs) ∧ keyOf ks = some kk ∧ ks.length ≤ 100 ∧ dtpAt kvs kk = some v ∧ P v ρ2 C2
    | _ => False) := pe_weak h fun σ H Q ⟨B, F, ρ, C, P, R, m, k⟩ =>
  ⟨B, F, ρ, C, _, R, m, fun x ρ1 C1 F1 v1 H1 s1 R1 r1 q1 => ⟨B, F1, ρ1, C1, _, R1, q1, fun ks ρ2 C2 F2 vs H2 s2 R2 r2 q2 => by
    try dsimp only at q2
    split at q2
    · rename_i p
      obtain ⟨kvs, kk, d, hp, hk, hl, hd, q2⟩ := q2
      cases r1
      refine ⟨len_le r2 hl, fun b hb => ?_⟩
      have g := Grow.new (o := HO.tup vs) R2.ce.fh hb
      have R3 := R2.grow g
      obtain ⟨ws, hl3, ra⟩ := (R3.ce.cel _ _ hp).1
      obtain ⟨v, e1, rv⟩ := ra.at hd
      refine ⟨p, v, rfl, ?_, k d ρ2 C2 _ v _ (s1.trans (s2.trans g.ff)) R3 rv q2⟩
      rw [← e1]
      exact DGet.t hl3 (by rw [upd_same, keyOf_vs r2 hk])
    · exact q2.elim⟩⟩
theorem t_din {neg : Bool} {md : ME} {mk : ML} {e : Expr} (h : PT X e (tTest (if neg = true then tDNotIn (tTup (rdA X.K mk)) (rd X.K md) else tDIn (tTup (rdA X.K mk)) (rd X.K md)))) : PT X e (rdT X.K fun ρ C P => mk ρ C fun ks ρ1 C1 => ks.length ≤ 100 ∧ md ρ1 C1 fun x ρ2 C2 => match x with
    | .ref p => ∃ kvs kk, C2 p = some (.dtp kvs) ∧ keyOf ks = some kk ∧ P (if neg = true then !(dtpAt kvs kk).isSome else (dtpAt kvs kk).isSome) ρ2 C2
    | _ => False) := pt_weak h fun σ H Q ⟨B, F, ρ, C, P, R, m, k⟩ => by
  have main : ∀ ff : Option V → V, (∀ o, ∃ b, ff o = .bl b ∧ b = (if neg = true then !o.isSome else o.isSome)) → tTest (fun σ H Q => tTup (rdA X.K mk) σ H fun y H1 => rd X.K md σ H1 fun x H2 => ∃ a o, x = .ref a ∧ DGet H2 a y o ∧ Q (ff o) H2) σ H Q := by
    intro ff hff
    refine ⟨B, F, ρ, C, _, R, m, fun ks ρ1 C1 F1 vs H1 s1 R1 r1 ⟨hl, q1⟩ => ⟨len_le r1 hl, fun b hb => ?_⟩⟩
    have g := Grow.new (o := HO.tup vs) R1.ce.fh hb
    refine ⟨B, _, ρ1, C1, _, R1.grow g, q1, fun x ρ2 C2 F2 v2 H2 s2 R2 r2 q2 => ?_⟩
    try dsimp only at q2
    split at q2
    · rename_i p
      obtain ⟨kvs, kk, hp, hk, q2⟩ := q2
      cases r2
      obtain ⟨ws, hl3, ra⟩ := (R2.ce.cel _ _ hp).1
      have hb2 : H2 b = some (.tup (kk.map kV)) := by
        rw [← keyOf_vs r1 hk]
        exact R2.ce.fh _ _ (s2 _ _ upd_same)
      obtain ⟨bb, e1, e2⟩ := hff (valV ws kk)
      refine ⟨p, valV ws kk, rfl, DGet.t hl3 hb2, bb, e1, k bb ρ2 C2 F2 H2 (s1.trans (g.ff.trans s2)) R2 ?_⟩
      rw [e2, ra.isS]; exact q2
    · exact q2.elim
  cases neg with
  | true => exact main (fun o => .bl (!o.isSome)) fun o => ⟨_, rfl, rfl⟩
  | false => exact main (fun o => .bl o.isSome) fun o => ⟨_, rfl, rfl⟩
theorem s_dpt {md me : ME} {mk : ML} {st : Stmt} (h : PS X st (sDPut (rd X.K md) (tTup (rdA X.K mk)) (rd X.K me))) : PS X st (rdS X.K fun A ρ C => me ρ C fun d ρ1 C1 => md ρ1 C1 fun x ρ2 C2 => mk ρ2 C2 fun ks ρ3 C3 => match x with
    | .ref p => ∃ kvs kk, C3 p = some (.dtp kvs) ∧ keyOf ks = some kk ∧ ks.length ≤ 100 ∧ kvs.length < sizeLine ∧ A.nx ρ3 (setC C3 p (.dtp (dtpPut kvs kk d)))
    | _ => False) := ps_weak h fun D σ H ⟨B, F, ρ, C, A, R, m, k1, _⟩ =>
  ⟨B, F, ρ, C, _, R, m, fun d ρ1 C1 F1 v1 H1 s1 R1 r1 q1 => ⟨B, F1, ρ1, C1, _, R1, q1, fun x ρ2 C2 F2 v2 H2 s2 R2 r2 q2 => ⟨B, F2, ρ2, C2, _, R2, q2, fun ks ρ3 C3 F3 vs H3 s3 R3 r3 q3 => by
    try dsimp only at q3
    split at q3
    · rename_i p
      obtain ⟨kvs, kk, hp, hk, hl, hz, q3⟩ := q3
      cases r2
      refine ⟨len_le r3 hl, fun b hb => ?_⟩
      have g := Grow.new (o := HO.tup vs) R3.ce.fh hb
      have R4 := R3.grow g
      obtain ⟨ws, hl3, ra⟩ := (R4.ce.cel _ _ hp).1
      exact ⟨p, _, rfl, DPut.t (k := kk) hl3 (by rw [upd_same, keyOf_vs r3 hk]) (by rw [ra.length]; exact hz), k1 ρ3 _ _ σ _ (s1.trans (s2.trans (s3.trans g.ff))) (R4.mutCell (c' := .dtp (dtpPut kvs kk d)) hp ⟨_, upd_same, ra.put (((r1.mono s2).mono s3).mono g.ff)⟩) q3⟩
    · exact q3.elim⟩⟩⟩
end
end M61

set_option Elab.async false
set_option linter.all false
set_option autoImplicit false
set_option maxRecDepth 100000
/-! M4p: the cells of a made def, let go of and taken back. -/
namespace M61
open PySem PySem.Spec PyProof.Rows L2
/-- the cells of the def at f -/
def ownS (F : Hp) (f : Addr) : Addr → Prop := fun a => ∃ o, F a = some (.frz o (.own f))
open Classical in
noncomputable def cutS (S : Addr → Prop) (H : Hp) : Hp := fun a => if S a then none else H a
open Classical in
noncomputable def addS (S : Addr → Prop) (H0 H : Hp) : Hp := fun a => if S a then H0 a else H a
section
variable {S : Addr → Prop} {H H0 : Hp} {a : Addr}
theorem cutS_in (h : S a) : cutS S H a = none := by unfold cutS; rw [if_pos h]
theorem cutS_out (h : ¬ S a) : cutS S H a = H a := by unfold cutS; rw [if_neg h]
theorem addS_in (h : S a) : addS S H0 H a = H0 a := by unfold addS; rw [if_pos h]
theorem addS_out (h : ¬ S a) : addS S H0 H a = H a := by unfold addS; rw [if_neg h]
theorem cutS_some {o : HO} (h : cutS S H a = some o) : ¬ S a ∧ H a = some o := by
  by_cases q : S a
  · rw [cutS_in q] at h; cases h
  · rw [cutS_out q] at h; exact ⟨q, h⟩
end
section
variable {K : PySem.W.Frag} {F F' H H' : Hp} {f : Addr}
/-- F' keeps all but the cells of f -/
def KpF (f : Addr) (F F' : Hp) : Prop := ∀ b o, F b = some o → (∀ ob, o ≠ .frz ob (.own f)) → F' b = some o
theorem KpF.rd {a : Addr} {u : HO} (s : KpF f F F') (h1 : ∀ ob, u ≠ .frz ob (.own f)) (h2 : u ≠ .own f) (h : L2.Rd F a u) : L2.Rd F' a u := by
  rcases h with h | ⟨o, h⟩
  · exact .inl (s _ _ h h1)
  · exact .inr ⟨o, s _ _ h fun ob z => by cases z; exact h2 rfl⟩
theorem KpF.sqT {a : Addr} {xs : List V} (s : KpF f F F') (h : SqT K F a xs) : SqT K F' a xs := h.imp (s.rd (fun _ z => by cases z) (fun z => by cases z)) id
theorem KpF.sqL {a : Addr} {xs : List V} (s : KpF f F F') (h : SqL K F a xs) : SqL K F' a xs := h.imp (s.rd (fun _ z => by cases z) (fun z => by cases z)) id
theorem KpF.caps {g : Addr} {cl : List (Str × Addr)} {fr : List Str} {vs : List V} (s : KpF f F F') (n : g ≠ f) (h : CapsF F g cl fr vs) : CapsF F' g cl fr vs :=
  ⟨h.len, h.inj, fun y c e => by obtain ⟨o, v, a, b⟩ := h.all y c e; exact ⟨o, v, s _ _ a (fun _ z => by cases z; exact n rfl), b⟩, fun i y e => by obtain ⟨c, o, v, u, a, b, r⟩ := h.has i y e; exact ⟨c, o, v, u, a, s _ _ b (fun _ z => by cases z; exact n rfl), r⟩⟩
theorem noc_clo {mk : String} {g : Addr} {xs : List D} (h : D.noc f (.clo mk g xs) = true) : g ≠ f ∧ D.nocs f xs = true := by
  have h : (decide (g ≠ f) && D.nocs f xs) = true := h
  rw [Bool.and_eq_true, decide_eq_true_eq] at h
  exact h
theorem nocs_cons {x : D} {xs : List D} (h : D.nocs f (x :: xs) = true) : x.noc f = true ∧ D.nocs f xs = true := by
  have h : (D.noc f x && D.nocs f xs) = true := h
  rw [Bool.and_eq_true] at h
  exact h
theorem nocs_app {xs ys : List D} : D.nocs f (xs ++ ys) = (D.nocs f xs && D.nocs f ys) := by
  induction xs with
  | nil => rfl
  | cons x xs ih =>
    show (D.noc f x && D.nocs f (xs ++ ys)) = (D.noc f x && D.nocs f xs && D.nocs f ys)
    rw [ih, Bool.and_assoc]
mutual
theorem Rep.kp (s : KpF f F F') : ∀ {v : V} {d : D}, Rep K F v d → d.noc f = true → Rep K F' v d
  | _, _, .non, _ => .non
  | _, _, .bl b, _ => .bl b
  | _, _, .int i, _ => .int i
  | _, _, .str x, _ => .str x
  | _, _, .tup h r, n => .tup (s.sqT h) (Reps.kp s r n)
  | _, _, .lst h r, n => .lst (s _ _ h (fun _ z => by cases z)) (Reps.kp s r n)
  | _, _, .scr h r, n => .scr (s.sqL h) (Reps.kp s r n)
  | _, _, .ref a, _ => .ref a
  | _, _, .dic (u := u) h d, _ => .dic (s _ _ h (fun _ z => by subst z; exact d)) d
  | _, _, .clo q h1 h2 c r, n => .clo q (s _ _ h1 (fun _ z => by unfold NdefX.FnO at z; cases z)) (s _ _ h2 (fun _ z => by unfold LamX.CodeO at z; cases z)) (s.caps (noc_clo n).1 c) (Reps.kp s r (noc_clo n).2)
  | _, _, .opn q h1 h2, _ => .opn q (s _ _ h1 (fun _ z => by unfold NdefX.FnO at z; cases z)) (s _ _ h2 (fun _ z => by unfold LamX.CodeO at z; cases z))
theorem Reps.kp (s : KpF f F F') : ∀ {vs : List V} {ds : List D}, Reps K F vs ds → D.nocs f ds = true → Reps K F' vs ds
  | _, _, .nil, _ => .nil
  | _, _, .cons r t, n => .cons (Rep.kp s r (nocs_cons n).1) (Reps.kp s t (nocs_cons n).2)
end
theorem RepKV.kp (s : KpF f F F') : ∀ {vs ds}, RepKV K F vs ds → D.nocs f (ds.map (·.2)) = true → RepKV K F' vs ds
  | _, _, .nil, _ => .nil
  | _, _, .cons r t, n => .cons (r.kp s (nocs_cons n).1) (RepKV.kp s t (nocs_cons n).2)
theorem RepKT.kp (s : KpF f F F') : ∀ {vs ds}, RepKT K F vs ds → D.nocs f (ds.map (·.2)) = true → RepKT K F' vs ds
  | _, _, .nil, _ => .nil
  | _, _, .cons r t, n => .cons (r.kp s (nocs_cons n).1) (RepKT.kp s t (nocs_cons n).2)
theorem RepFs.kp (s : KpF f F F') : ∀ {vs ds}, RepFs K F vs ds → D.nocs f (ds.map (·.2)) = true → RepFs K F' vs ds
  | _, _, .nil, _ => .nil
  | _, _, .cons r t, n => .cons (r.kp s (nocs_cons n).1) (RepFs.kp s t (nocs_cons n).2)
theorem CellRep.kp {a : Addr} {c : Cell} (s : KpF f F F') (e : ∀ o, H a = some o → H' a = some o) (r : CellRep K F H a c) (n : c.noc f = true) : CellRep K F' H' a c := by
  cases c with
  | lst xs => obtain ⟨vs, q, r⟩ := r; exact ⟨vs, e _ q, r.kp s n⟩
  | dct xs => obtain ⟨vs, q, r⟩ := r; exact ⟨vs, e _ q, r.kp s n⟩
  | dtp xs => obtain ⟨vs, q, r⟩ := r; exact ⟨vs, e _ q, r.kp s n⟩
  | ins cls xs => obtain ⟨cad, dx, vs, m, q, r⟩ := r; exact ⟨cad, dx, vs, m, e _ q, r.kp s n⟩
theorem kp_cut : KpF f F (cutS (ownS F f) F) := fun b o h n => by
  rw [cutS_out]
  · exact h
  · rintro ⟨ob, z⟩
    rw [h] at z; cases z; exact n ob rfl
theorem drop_some {C : CM} {a : Addr} {c : Cell} (h : C.drop f a = some c) : C a = some c ∧ c.noc f = true := by
  unfold CM.drop at h
  cases e : C a with
  | none => rw [e] at h; cases h
  | some c0 =>
    rw [e] at h
    by_cases n : c0.noc f = true
    · have h : (if c0.noc f = true then some c0 else none) = some c := h
      rw [if_pos n] at h; cases h; exact ⟨rfl, n⟩
    · have h : (if c0.noc f = true then some c0 else none) = some c := h
      rw [if_neg n] at h; cases h
theorem drop_none {C : CM} {a : Addr} (h : C a = none) : C.drop f a = none := by unfold CM.drop; rw [h]
/-- F, H without the cells of f; the cells that don't speak of it -/
theorem Cells.cut {C : CM} (ce : Cells K F H C) : Cells K (cutS (ownS F f) F) (cutS (ownS F f) H) (C.drop f) := by
  have nS : ∀ {b : Addr} {o : HO}, F b = some o → (∀ ob, o ≠ .frz ob (.own f)) → ¬ ownS F f b := fun h n ⟨ob, z⟩ => by rw [h] at z; cases z; exact n ob rfl
  refine ⟨fun b o h => ?_, fun a c h => ?_, fun P q e => ?_⟩
  · obtain ⟨n, h⟩ := cutS_some h
    rw [cutS_out n]; exact ce.fh b o h
  · obtain ⟨h, n⟩ := drop_some h
    obtain ⟨r, fa⟩ := ce.cel a c h
    have na : ¬ ownS F f a := fun ⟨ob, z⟩ => by rw [fa] at z; cases z
    exact ⟨r.kp kp_cut (fun o z => by rw [cutS_out na]; exact z) n, by rw [cutS_out na]; exact fa⟩
  · obtain ⟨n, ps, h1, h2, h3⟩ := ce.tb P q e
    have nP : ¬ ownS F f P := fun ⟨ob, z⟩ => by rw [n] at z; cases z
    refine ⟨by rw [cutS_out nP]; exact n, ps, by rw [cutS_out nP]; exact h1, h2, fun pos cv hc => ?_⟩
    obtain ⟨c, e1, e2⟩ := h3 pos cv hc
    exact ⟨c, e1, by rw [cutS_out (nS e2 fun ob z => by unfold LamX.CodeO at z; cases z)]; exact e2⟩
/-- .. and back -/
theorem cells_back {C C2 : CM} {F2 H2 : Hp} (ce : Cells K F H C) (ce2 : Cells K F2 H2 C2) (fr : Fr (cutS (ownS F f) H) (cutS (ownS F f) F) (C.drop f) H2 F2 C2) (z2 : ∀ a, ownS F f a → H2 a = none) :
    Cells K (addS (ownS F f) F F2) (addS (ownS F f) H H2) (CM.back f C C2) ∧ Fr H F C (addS (ownS F f) H H2) (addS (ownS F f) F F2) (CM.back f C C2) ∧ Same F2 (addS (ownS F f) F F2) := by
  have nF2 : ∀ {b : Addr} {o : HO}, F2 b = some o → ¬ ownS F f b := fun {b o} h s => by
    have q := ce2.fh b o h
    rw [z2 b s] at q; cases q
  have nH2 : ∀ {b : Addr} {o : HO}, H2 b = some o → ¬ ownS F f b := fun {b o} h s => by rw [z2 b s] at h; cases h
  have nC2 : ∀ {b : Addr} {c : Cell}, C2 b = some c → ¬ ownS F f b := fun {b c} h => by
    obtain ⟨o, q⟩ := (ce2.cel b c h).1.ex
    exact nH2 q
  have sF2 : Same F2 (addS (ownS F f) F F2) := fun b o h => by rw [addS_out (nF2 h)]; exact h
  have sF : Same F (addS (ownS F f) F F2) := fun b o h => by
    by_cases s : ownS F f b
    · rw [addS_in s]; exact h
    · rw [addS_out s]; exact fr.ff b o (by rw [cutS_out s]; exact h)
  have sH2 : ∀ b o, H2 b = some o → addS (ownS F f) H H2 b = some o := fun b o h => by rw [addS_out (nH2 h)]; exact h
  -- what was dropped
  have old : ∀ {a : Addr} {c : Cell}, C a = some c → c.noc f ≠ true → ¬ ownS F f a ∧ (∀ o, H a = some o → H2 a = some o) ∧ F2 a = none := fun {a c} h n => by
    obtain ⟨r, fa⟩ := ce.cel a c h
    have na : ¬ ownS F f a := fun ⟨ob, z⟩ => by rw [fa] at z; cases z
    have dn : C.drop f a = none := by unfold CM.drop; rw [h]; exact if_neg n
    refine ⟨na, fun o z => fr.frame a o (by rw [cutS_out na]; exact z) dn fun ps e => by subst e; exact r.pl _ z, ?_⟩
    cases e : F2 a with
    | none => rfl
    | some o =>
      obtain ⟨o', ho⟩ := r.ex
      rcases fr.fnew a o e with z | z
      · rw [cutS_out na, fa] at z; cases z
      · rw [cutS_out na, ho] at z; cases z
  have bk : ∀ {a : Addr} {c : Cell}, CM.back f C C2 a = some c → (C a = some c ∧ c.noc f ≠ true) ∨ C2 a = some c := fun {a c} h => by
    unfold CM.back at h
    cases e : C a with
    | none => rw [e] at h; exact .inr h
    | some c0 =>
      rw [e] at h
      have h : (if c0.noc f = true then C2 a else some c0) = some c := h
      by_cases n : c0.noc f = true
      · rw [if_pos n] at h; exact .inr h
      · rw [if_neg n] at h; cases h; exact .inl ⟨rfl, n⟩
  refine ⟨⟨fun b o h => ?_, fun a c h => ?_, fun P q e => ?_⟩, ⟨sF, fun a o h => ?_, fun a o h n nt => ?_, fun a c h => ?_, fun a o h => ?_⟩, sF2⟩
  · by_cases s : ownS F f b
    · rw [addS_in s] at h ⊢; exact ce.fh b o h
    · rw [addS_out s] at h ⊢; exact ce2.fh b o h
  · rcases bk h with ⟨h, n⟩ | h
    · obtain ⟨na, hh, f2⟩ := old h n
      obtain ⟨r, fa⟩ := ce.cel a c h
      exact ⟨r.mono sF fun o z => by rw [addS_out na]; exact hh o z, by rw [addS_out na]; exact f2⟩
    · have na := nC2 h
      obtain ⟨r, fa⟩ := ce2.cel a c h
      exact ⟨r.mono sF2 fun o z => by rw [addS_out na]; exact z, by rw [addS_out na]; exact fa⟩
  · obtain ⟨n, ps, h1, h2, h3⟩ := ce2.tb P q e
    have nP := nH2 h1
    refine ⟨by rw [addS_out nP]; exact n, ps, sH2 _ _ h1, h2, fun pos cv hc => ?_⟩
    obtain ⟨c, e1, e2⟩ := h3 pos cv hc
    exact ⟨c, e1, sF2 _ _ e2⟩
  · by_cases s : ownS F f a
    · rw [addS_in s] at h; exact .inl h
    · rw [addS_out s] at h
      rcases fr.fnew a o h with z | z
      · rw [cutS_out s] at z; exact .inl z
      · rw [cutS_out s] at z; exact .inr z
  · by_cases s : ownS F f a
    · rw [addS_in s]; exact h
    · rw [addS_out s]; exact fr.frame a o (by rw [cutS_out s]; exact h) (drop_none n) nt
  · rcases bk h with ⟨h, _⟩ | h
    · exact .inl ⟨_, h⟩
    · have na := nC2 h
      rcases fr.cnew a c h with ⟨c0, z⟩ | z
      · exact .inl ⟨c0, (drop_some z).1⟩
      · rw [cutS_out na] at z; exact .inr z
  · by_cases s : ownS F f a
    · exact ⟨o, by rw [addS_in s]; exact h⟩
    · rw [addS_out s]; exact fr.stay a o (by rw [cutS_out s]; exact h)
/-! ### cells taken into F and H for a call -/
theorem Cells.add {C : CM} {S : Addr → Prop} {ob : Addr → Obj} (ce : Cells K F H C) (hS : ∀ a, S a → H a = none) :
    Cells K (addS S (fun a => some (.frz (ob a) (.own f))) F) (addS S (fun a => some (.frz (ob a) (.own f))) H) C := by
  have nH : ∀ {b : Addr} {o : HO}, H b = some o → ¬ S b := fun {b o} h s => by rw [hS b s] at h; cases h
  have nF : ∀ {b : Addr} {o : HO}, F b = some o → ¬ S b := fun {b o} h => nH (ce.fh b o h)
  refine ⟨fun b o h => ?_, fun a c h => ?_, fun P q e => ?_⟩
  · by_cases s : S b
    · rw [addS_in s] at h ⊢; exact h
    · rw [addS_out s] at h ⊢; exact ce.fh b o h
  · obtain ⟨r, fa⟩ := ce.cel a c h
    obtain ⟨o, ho⟩ := r.ex
    have na := nH ho
    exact ⟨r.mono (fun b o h => by rw [addS_out (nF h)]; exact h) fun o z => by rw [addS_out na]; exact z, by rw [addS_out na]; exact fa⟩
  · obtain ⟨n, ps, h1, h2, h3⟩ := ce.tb P q e
    have nP := nH h1
    refine ⟨by rw [addS_out nP]; exact n, ps, by rw [addS_out nP]; exact h1, h2, fun pos cv hc => ?_⟩
    obtain ⟨c, e1, e2⟩ := h3 pos cv hc
    exact ⟨c, e1, by rw [addS_out (nF e2)]; exact e2⟩
/-- behind the call -/
theorem cells_sub {C C2 : CM} {F2 H2 : Hp} {S : Addr → Prop} {ob : Addr → Obj} (ce : Cells K F H C) (hS : ∀ a, S a → H a = none) (ce2 : Cells K F2 H2 C2)
    (fr : Fr (addS S (fun a => some (.frz (ob a) (.own f))) H) (addS S (fun a => some (.frz (ob a) (.own f))) F) C H2 F2 C2) :
    Cells K (cutS S F2) (cutS S H2) (C2.drop f) ∧ Fr H F C (cutS S H2) (cutS S F2) (C2.drop f) ∧ KpF f F2 (cutS S F2) := by
  have inF2 : ∀ {b : Addr}, S b → F2 b = some (.frz (ob b) (.own f)) := fun {b} s => fr.ff b _ (addS_in s)
  have inH2 : ∀ {b : Addr}, S b → H2 b = some (.frz (ob b) (.own f)) := fun {b} s => ce2.fh b _ (inF2 s)
  have nH : ∀ {b : Addr} {o : HO}, H b = some o → ¬ S b := fun {b o} h s => by rw [hS b s] at h; cases h
  have nF : ∀ {b : Addr} {o : HO}, F b = some o → ¬ S b := fun {b o} h => nH (ce.fh b o h)
  have kp : KpF f F2 (cutS S F2) := fun b o h n => by
    rw [cutS_out]
    · exact h
    · intro s; rw [inF2 s] at h; cases h; exact n _ rfl
  refine ⟨⟨fun b o h => ?_, fun a c h => ?_, fun P q e => ?_⟩, ⟨fun b o h => ?_, fun a o h => ?_, fun a o h n nt => ?_, fun a c h => ?_, fun a o h => ?_⟩, kp⟩
  · obtain ⟨n, h⟩ := cutS_some h
    rw [cutS_out n]; exact ce2.fh b o h
  · obtain ⟨h, n⟩ := drop_some h
    obtain ⟨r, fa⟩ := ce2.cel a c h
    have na : ¬ S a := fun s => by rw [inF2 s] at fa; cases fa
    exact ⟨r.kp kp (fun o z => by rw [cutS_out na]; exact z) n, by rw [cutS_out na]; exact fa⟩
  · obtain ⟨n, ps, h1, h2, h3⟩ := ce2.tb P q e
    have nP : ¬ S P := fun s => by rw [inF2 s] at n; cases n
    refine ⟨by rw [cutS_out nP]; exact n, ps, by rw [cutS_out nP]; exact h1, h2, fun pos cv hc => ?_⟩
    obtain ⟨c, e1, e2⟩ := h3 pos cv hc
    exact ⟨c, e1, kp _ _ e2 fun ob z => by unfold LamX.CodeO at z; cases z⟩
  · have n := nF h
    rw [cutS_out n]
    exact fr.ff b o (by rw [addS_out n]; exact h)
  · obtain ⟨n, h⟩ := cutS_some h
    rcases fr.fnew a o h with z | z
    · rw [addS_out n] at z; exact .inl z
    · rw [addS_out n] at z; exact .inr z
  · have na := nH h
    rw [cutS_out na]
    exact fr.frame a o (by rw [addS_out na]; exact h) n nt
  · obtain ⟨h, _⟩ := drop_some h
    rcases fr.cnew a c h with z | z
    · exact .inl z
    · have na : ¬ S a := fun s => by rw [addS_in s] at z; cases z
      rw [addS_out na] at z; exact .inr z
  · have na := nH h
    rw [cutS_out na]
    exact fr.stay a o (by rw [addS_out na]; exact h)
end
/-! ### ends of calls -/
section
variable {P : Program} {w : World} {outer : List Env} {s s' : Shared} {H : Hp} {S : Addr → Prop} {Q : VK} {u : Value}
theorem hok_cut (hS : ∀ a, S a → ∃ o g, H a = some (.frz o (.own g))) {h : Heap} (ok : HOk P w H h) : HOk P w (cutS S H) h := fun b o e => by
  obtain ⟨n, e⟩ := cutS_some e
  refine (ok b o e).stay (fun _ _ _ q => q) (fun c q => ?_) fun c xs q => ?_
  · rw [cutS_out]
    · exact q
    · intro z; obtain ⟨o, g, y⟩ := hS c z; rw [q] at y; cases y
  · rw [cutS_out]
    · exact q
    · intro z; obtain ⟨o, g, y⟩ := hS c z; rw [q] at y; cases y
theorem ce_back (hS : ∀ a, S a → ∃ o g, H a = some (.frz o (.own g))) (ok : HOk P w H s.heap) (frf : ∀ b ∈ frs outer, H b = none) (h : CE outer P w (cutS S H) s Q u s') :
    CE outer P w H s (fun v H' => ∃ H2, H' = addS S H H2 ∧ (∀ a, S a → H2 a = none) ∧ Q v H2) u s' := by
  obtain ⟨v, H2, os, bare, un, ok2, r, q⟩ := h
  have at_ : ∀ a, S a → ∃ o, s.heap.get? a = some o ∧ s'.heap.get? a = some o ∧ ∃ g, H a = some (.frz o (.own g)) := fun a z => by
    obtain ⟨o, g, y⟩ := hS a z
    have e := (ok a _ y).1
    exact ⟨o, e, un.keep a o e (cutS_in z) (fun m => by rw [frf a m] at y; cases y) (by simp), g, y⟩
  have z2 : ∀ a, S a → H2 a = none := fun a z => by
    obtain ⟨o, e, _⟩ := at_ a z
    exact un.free a o e (cutS_in z) (by simp)
  have nS : ∀ {b : Addr}, H b = none → ¬ S b := fun {b} n z => by obtain ⟨o, g, y⟩ := hS b z; rw [n] at y; cases y
  refine ⟨v, addS S H H2, os, bare, ⟨fun b o e n hb hx => ?_, fun b o e n hb hx => ?_, fun b o e n hx => ?_, fun b o e hx => ?_, fun b xs e => ?_, fun b o x e => ?_, fun b ps e => ?_⟩, fun b o e => ?_, r, H2, rfl, z2, q⟩
  · exact un.keep b o e (by rw [cutS_out (nS n)]; exact n) hb hx
  · exact un.slot b o e (by rw [cutS_out (nS n)]; exact n) hb hx
  · rw [addS_out (nS n)]; exact un.free b o e (by rw [cutS_out (nS n)]; exact n) hx
  · exact un.there b o e hx
  · have n : ¬ S b := fun z => by obtain ⟨o, g, y⟩ := hS b z; rw [e] at y; cases y
    rw [addS_out n]; exact un.tups b xs (by rw [cutS_out n]; exact e)
  · by_cases z : S b
    · rw [addS_in z]; exact e
    · rw [addS_out z]; exact un.frzs b o x (by rw [cutS_out z]; exact e)
  · have n : ¬ S b := fun z => by obtain ⟨o, g, y⟩ := hS b z; rw [e] at y; cases y
    rw [addS_out n]; exact un.tbls b ps (by rw [cutS_out n]; exact e)
  · by_cases z : S b
    · rw [addS_in z] at e
      obtain ⟨o', e1, e2, g, y⟩ := at_ b z
      rw [e] at y; cases y
      exact ⟨e2, o', e2⟩
    · rw [addS_out z] at e
      refine (ok2 b o e).stay (fun _ _ _ q => q) (fun c q => ?_) fun c xs q => ?_
      · rw [addS_out]
        · exact q
        · intro y; rw [z2 c y] at q; cases q
      · rw [addS_out]
        · exact q
        · intro y; rw [z2 c y] at q; cases q
/-- cells of the running frame, told of for a call -/
theorem hok_add {f : Addr} {ob : Addr → Obj} (hS : ∀ a, S a → H a = none) (hO : ∀ a, S a → s.heap.get? a = some (ob a)) (ok : HOk P w H s.heap) : HOk P w (addS S (fun a => some (.frz (ob a) (.own f))) H) s.heap := fun b o e => by
  by_cases z : S b
  · rw [addS_in z] at e
    cases e
    exact ⟨hO b z, _, hO b z⟩
  · rw [addS_out z] at e
    refine (ok b o e).stay (fun _ _ _ q => q) (fun c q => ?_) fun c xs q => ?_
    · rw [addS_out]
      · exact q
      · intro y; rw [hS c y] at q; cases q
    · rw [addS_out]
      · exact q
      · intro y; rw [hS c y] at q; cases q
theorem ce_sub {f : Addr} {ob : Addr → Obj} (hS : ∀ a, S a → H a = none) (hO : ∀ a, S a → s.heap.get? a = some (ob a)) (h : CE outer P w (addS S (fun a => some (.frz (ob a) (.own f))) H) s Q u s') :
    CE outer P w H s (fun v H' => ∃ H2, H' = cutS S H2 ∧ Q v H2) u s' := by
  obtain ⟨v, H2, os, bare, un, ok2, r, q⟩ := h
  have in2 : ∀ a, S a → H2 a = some (.frz (ob a) (.own f)) := fun a z => un.frzs a (ob a) (.own f) (addS_in z)
  have nS : ∀ {b : Addr} {o : HO}, H b = some o → ¬ S b := fun {b o} e z => by rw [hS b z] at e; cases e
  refine ⟨v, cutS S H2, os, bare, ⟨fun b o e n hb hx => ?_, fun b o e n hb hx => ?_, fun b o e n hx => ?_, fun b o e hx => ?_, fun b xs e => ?_, fun b o x e => ?_, fun b ps e => ?_⟩, hok_cut (fun a z => ⟨_, _, in2 a z⟩) ok2, r, H2, rfl, q⟩
  · by_cases z : S b
    · have e1 := hO b z
      rw [e] at e1; cases e1
      exact (ok2 b _ (in2 b z)).1
    · exact un.keep b o e (by rw [addS_out z]; exact n) hb hx
  · by_cases z : S b
    · have e1 := hO b z
      rw [e] at e1; cases e1
      exact ⟨(ob b).slots, (ok2 b _ (in2 b z)).1⟩
    · exact un.slot b o e (by rw [addS_out z]; exact n) hb hx
  · by_cases z : S b
    · exact cutS_in z
    · rw [cutS_out z]; exact un.free b o e (by rw [addS_out z]; exact n) hx
  · exact un.there b o e hx
  · rw [cutS_out (nS e)]; exact un.tups b xs (by rw [addS_out (nS e)]; exact e)
  · rw [cutS_out (nS e)]; exact un.frzs b o x (by rw [addS_out (nS e)]; exact e)
  · rw [cutS_out (nS e)]; exact un.tbls b ps (by rw [addS_out (nS e)]; exact e)
end
end M61

set_option Elab.async false
set_option linter.all false
set_option autoImplicit false
set_option maxRecDepth 100000
/-! M4q: defs made within defs. -/
namespace M61
open PySem PySem.Spec PyProof.Rows L2 NdefX LamX
/-- what a made def promises: ws what its cells hold -/
structure NOkG (P : Program) (w : World) (K : PySem.W.Frag) (mg : Str → Option Value) (base : Heap) (k : Nat) (nf : NF) (sp : List V → Sp) : Prop where
  run : ∀ (A : Around) (out : List Env) (s : Shared) (H : Hp) (f : Addr) (us : List Value) (vs ws : List V) (Q : VK) (E : XK), A.guards = some [] → Room k A → Env0 P w K mg base A out s H → H f = some (FnO f nf) → H nf.c = some (CodeO nf.c nf.qual) →
    CellsAt nf.cl (freeOf nf.scope) (ws.map some) s.heap H → Vals vs us → sp ws vs H Q E → codeAny (model P w) A (.call (.ref f) ⟨us, []⟩) (CR CX0 out P w H s Q E) s
section
variable {P : Program} {w : World} {K : PySem.W.Frag} {mg : Str → Option Value} {base : Heap}
theorem nok_ofG {N ps : List Str} {nf : NF} {k : Nat} {sp : List V → Sp} (S : NScope N ps (freeOf nf.scope) nf.scope) (hb : ∀ (doc pm ctv : Value) (us : List Value), us.length = ps.length → bindArgs (nf.fd doc pm ctv) ⟨us, []⟩ = pure (ps.zip us))
    (len : ∀ ws vs H Q E, ws.length = (freeOf nf.scope).length → sp ws vs H Q E → vs.length = ps.length)
    (hbody : ∀ (A : Around) (out : List Env) (s : Shared) (H : Hp) (f : Addr) (vs ws : List V) (Q : VK) (E : XK), A.guards = some [] → Room k (A.deeper (envF nf f s.heap.objs.size)) → ws.length = (freeOf nf.scope).length → sp ws vs H Q E →
      ∃ t, PSs (ncx CX0 P w K mg base N nf f A out s H E) nf.body t ∧ t { nx := fun _ H' => Q .non H', rt := Q } (startF N vs (ws.map some)) H) :
    NOkG P w K mg base (k + 1) nf sp := by
  constructor
  intro A out s H f us vs ws Q E gd hr e0 hf hc cc r hsp
  have wl : ws.length = (freeOf nf.scope).length := by have := cc.len; rwa [List.length_map] at this
  have hl := len _ _ _ _ _ wl hsp
  have lim : s.heap.NoLimit := e0.mod.nolimit.keeps fun b o e => (e0.bs b o e).1
  obtain ⟨od, sl, doc, pm, ctv, ho⟩ := fnO_at e0.hok hf
  have hk2 := codeO_at e0.hok hc
  refine codeAny_call_function hr.depth ho rfl S.co S.gen rfl hk2 ?_
  rw [hb doc pm ctv us (by rw [← r.length]; exact hl)]
  refine wpAny_pure (wpAny_newFunctionEnv S.nocell (fun p hp => S.par p.1 (List.of_mem_zip (show (p.1, p.2) ∈ ps.zip us from hp)).1) (fun g hns hsb => ⟨lim.fresh _ hsb, ?_⟩) S.kind)
  show codeAny _ _ (.func nf.body (envF nf f s.heap.objs.size)) _ _
  refine codeAny_func ?_
  have kp : ∀ b o, s.heap.get? b = some o → g.get? b = some o := fun b o e => hsb.extBut b o (Nat.ne_of_lt (Heap.lt_size e)) (Heap.get?_push_of_some _ e)
  obtain ⟨t, ht, hq⟩ := hbody A out s H f vs ws Q E gd (hr.deeper _) wl hsp
  have I : Inv (ncx CX0 P w K mg base N nf f A out s H E) [] (startF N vs (ws.map some)) H { s with heap := g, toks := s.toks + (ps.zip us).length } := inv_startN S hr.hd e0 hl r cc hns kp
  have fin : ∀ {σ' : L2.St} {H' : Hp} {v : V} {u : Value} {s' : Shared}, Inv (ncx CX0 P w K mg base N nf f A out s H E) [] σ' H' s' → L2.RelV v u → Q v H' → CE out P w H s Q u s' := fun J rv q => ⟨_, _, J.os, J.bare, J.base, J.hok, rv, q⟩
  refine wpAny_mono (ht.run [] _ (startF N vs (ws.map some)) H _ I hq) (fun fl s' hs => ?_) fun e s' hs => hs
  rcases fl with u | _ | _ | _
  all_goals first
    | (obtain ⟨v, σ', H', J, rv, q⟩ := hs; exact fin J rv q)
    | (obtain ⟨σ', H', J, q⟩ := hs; exact fin (v := V.non) (u := Value.none) J rfl q)
    | (obtain ⟨_, _, _, q⟩ := hs; exact False.elim q)
end
/-- a made def's promise, of its meaning -/
def spClo (K : PySem.W.Frag) (g : List D → CM → (D → CM → Prop) → Prop) : List V → Sp := fun ws vs H Q _ => ∃ (F : Hp) (C : CM) (ds caps : List D) (P : D → CM → Prop), Cells K F H C ∧ Reps K F vs ds ∧ Reps K F ws caps ∧ g (ds ++ caps) C P ∧
  ∀ d C' F' v H', Cells K F' H' C' → Fr H F C H' F' C' → Rep K F' v d → P d C' → Q v H'
section
variable {X : Cx}
theorem own_of {F : Hp} {f c : Addr} {o : Obj} (h : F c = some (.frz o (.own f))) : ownS F f c := ⟨o, h⟩
theorem pe_callv {i n : Nat} {x : Str} {p pos : Pos} {e : Expr} {es : List Expr} {me : ML} {Γ : Gam} {ex : ExP} (gd : X.A.guards = some []) (hr : Room n X.A) (hx0 : X.xe = fun _ _ => False) (hi : X.N[i]? = some x) (hv : Vis X.env.scope x)
    (hclo : ∀ mk nf, NfK X.K mk nf → NOkG X.prog X.w X.K X.mg X.base n nf (spClo X.K fun ds C P => Γ (cloKey mk) ds C P ex)) (ha : PA X (e :: es) (rdA X.K me))
    (hdb : (x == ("__debug__" : Str)) = false) (hcd : (x == ("__classdict__" : Str)) = false) (he : starEach (e :: es) X.env = (false, eval e X.env) :: starEach es X.env) (hpl : (backTo pos (starEach es X.env)).any (·.1) = false) :
    PE X (.Call (.Name x p) (e :: es) [] pos) (rd X.K fun ρ C P => varD ρ i fun x => match x with
      | .clo mk f caps => me ρ C fun ds ρ1 C1 => D.nocs f ds = true ∧ D.nocs f caps = true ∧ Γ (cloKey mk) (ds ++ caps) (C1.drop f) (fun d C2 => P d ρ1 (CM.back f C1 C2)) ex
      | _ => False) := by
  constructor
  intro pins s σ H Q I ⟨B, F, ρ, C, P, R, m, k⟩
  unfold varD at m
  try dsimp only at m
  split at m
  case h_2 => exact m.elim
  rename_i d0 hd0
  try dsimp only at m
  split at m
  case h_2 => exact m.elim
  rename_i mk f caps
  obtain ⟨v0, es0, r0⟩ := R.dat i _ hd0
  cases r0 with
  | clo hn h1 h2 hcap hrs =>
  rename_i nf ws
  have H1f := R.ce.fh _ _ h1
  refine wpAny_Call_Name_kw (thn ((pe_var (pos := p) hi hv hdb hcd).run pins s σ H (fun v G => v = .ref f ∧ G = H) I ⟨.ref f, es0, rfl, rfl⟩) fun u s1 ⟨v, G, I1, r1, q1⟩ => ?_)
  obtain ⟨rfl, rfl⟩ := q1
  cases r1
  let Z : List V → Hp → Prop := fun vs H2 => ∃ (ds : List D) (ρ1 : Rho) (C1 : CM) (F1 : Hp), Same F F1 ∧ Rel X.K B F1 σ H2 ρ1 C1 ∧ Reps X.K F1 vs ds ∧ D.nocs f ds = true ∧ D.nocs f caps = true ∧ Γ (cloKey mk) (ds ++ caps) (C1.drop f) (fun d C2 => P d ρ1 (CM.back f C1 C2)) ex
  refine PySem.W.callWith_F (first := []) (fnAt_of I1 H1f) (thn (ha.run pos pins s1 σ G Z I1 ⟨B, F, ρ, C, _, R, m, fun ds ρ1 C1 F1 vs H2 s12 R1 rr q => ⟨ds, ρ1, C1, F1, s12, R1, rr, q⟩⟩) fun us s2 ⟨vs, H2, I2, rv, ds, ρ1, C1, F1, s12, R1, rr, n1, n2, q⟩ => ?_) he hpl
  have H2f : H2 f = some (FnO f nf) := R1.ce.fh _ _ (s12 _ _ h1)
  refine ⟨fnAt_of I2 H2f, ?_⟩
  show wpAny _ _ (call (.ref f) us) _ _ _
  have hcap1 := hcap.mono s12
  have hS : ∀ a, ownS F1 f a → ∃ o g, H2 a = some (.frz o (.own g)) := fun a ⟨o, z⟩ => ⟨o, f, R1.ce.fh _ _ z⟩
  have nSf : ¬ ownS F1 f f := fun ⟨o, z⟩ => by rw [s12 _ _ h1] at z; unfold FnO at z; cases z
  have nSc : ¬ ownS F1 f nf.c := fun ⟨o, z⟩ => by rw [s12 _ _ h2] at z; unfold CodeO at z; cases z
  have e0 := I2.env0
  have e1 : Env0 X.prog X.w X.K X.mg X.base X.A X.stack s2 (cutS (ownS F1 f) H2) := ⟨e0.frames, e0.mod, fun b o e => ⟨(e0.bs b o e).1, by
    by_cases z : ownS F1 f b
    · exact cutS_in z
    · rw [cutS_out z]; exact (e0.bs b o e).2⟩, e0.bsz, e0.funs, fun b hb => by
    by_cases z : ownS F1 f b
    · exact cutS_in z
    · rw [cutS_out z]; exact e0.frf b hb, hok_cut hS e0.hok, e0.bare⟩
  have at_ : ∀ {c : Addr} {o : Obj}, F1 c = some (.frz o (.own f)) → s2.heap.get? c = some o := fun z => (I2.hok _ _ (R1.ce.fh _ _ z)).1
  have cc : CellsAt nf.cl (freeOf nf.scope) (ws.map some) s2.heap (cutS (ownS F1 f) H2) := by
    refine ⟨by rw [List.length_map]; exact hcap.len, fun y c e => ?_, hcap.inj, fun j y e => ?_⟩
    · obtain ⟨o, v, a, b⟩ := hcap1.all y c e
      exact ⟨cutS_in ⟨o, a⟩, v, o, at_ a, b⟩
    · obtain ⟨c, o, v, u, a, b, dd, hw, hrv⟩ := hcap1.has j y e
      refine ⟨c, a, fun v' hv' => ?_⟩
      rw [List.getElem?_map, hw] at hv'
      cases hv'
      exact ⟨u, hrv, o, at_ b, dd⟩
  have cut := R1.ce.cut (f := f)
  refine wpAny_call (codeAny_mono ((hclo mk nf hn).run X.A X.stack s2 (cutS (ownS F1 f) H2) f us vs ws (fun v H3 => ∃ d C2 F3, Cells X.K F3 H3 C2 ∧ Fr (cutS (ownS F1 f) H2) (cutS (ownS F1 f) F1) (C1.drop f) H3 F3 C2 ∧ Rep X.K F3 v d ∧ P d ρ1 (CM.back f C1 C2)) (fun _ _ _ => False) gd hr e1
    (by rw [cutS_out nSf]; exact H2f) (by rw [cutS_out nSc]; exact R1.ce.fh _ _ (s12 _ _ h2)) cc rv ⟨_, _, ds, caps, _, cut, rr.kp kp_cut n1, (hrs.mono s12).kp kp_cut n2, q, fun d C2 F3 v H3 c3 f3 r3 p3 => ⟨d, C2, F3, c3, f3, r3, p3⟩⟩) fun z s' hq => ?_)
  rcases z with er | fl
  · exact False.elim hq
  · cases fl with
    | ret u =>
      obtain ⟨v, H', I3, rv3, H3, eH, z2, d, C2, F3, c3, f3, r3, p3⟩ := I2.after (ce_back hS I2.hok e0.frf hq)
      subst eH
      obtain ⟨b1, b2, b3⟩ := cells_back R1.ce c3 f3 z2
      exact ⟨v, _, I3, rv3, k d ρ1 _ _ v _ (s12.trans b2.ff) (R1.step b2 b1) (r3.mono b3) p3⟩
    | next => exact False.elim hq
    | brk => exact False.elim hq
    | cont => exact False.elim hq
end
end M61

set_option Elab.async false
set_option linter.all false
set_option autoImplicit false
set_option maxRecDepth 100000
/-! M4r: a def of the running frame handed on; the making of defs. -/
namespace M61
open PySem PySem.Spec PyProof.Rows L2 NdefX LamX
section
variable {K : PySem.W.Frag} {F H : Hp} {f : Addr}
mutual
theorem Rep.fresh (n : F f = none) : ∀ {v : V} {d : D}, Rep K F v d → d.noc f = true
  | _, _, .non => rfl
  | _, _, .bl b => rfl
  | _, _, .int i => rfl
  | _, _, .str x => rfl
  | _, _, .tup h r => Reps.fresh n r
  | _, _, .lst h r => Reps.fresh n r
  | _, _, .scr h r => Reps.fresh n r
  | _, _, .ref a => rfl
  | _, _, .dic h d => rfl
  | _, _, .clo (f := g) q h1 h2 c r => by
    have ne : g ≠ f := fun z => by subst z; rw [n] at h1; cases h1
    have z := Reps.fresh n r
    show (decide (g ≠ f) && D.nocs f _) = true
    rw [z, decide_eq_true ne]; rfl
  | _, _, .opn (f := g) q h1 h2 => by
    have ne : g ≠ f := fun z => by subst z; rw [n] at h1; cases h1
    exact decide_eq_true ne
theorem Reps.fresh (n : F f = none) : ∀ {vs : List V} {ds : List D}, Reps K F vs ds → D.nocs f ds = true
  | _, _, .nil => rfl
  | _, _, .cons r t => by
    have a := Rep.fresh n r
    have b := Reps.fresh n t
    show (D.noc f _ && D.nocs f _) = true
    rw [a, b]; rfl
end
theorem RepKV.fresh (n : F f = none) : ∀ {vs ds}, RepKV K F vs ds → D.nocs f (ds.map (·.2)) = true
  | _, _, .nil => rfl
  | _, _, .cons r t => by
    have a := r.fresh n
    have b := RepKV.fresh n t
    show (D.noc f _ && D.nocs f _) = true
    rw [a]; exact b
theorem RepKT.fresh (n : F f = none) : ∀ {vs ds}, RepKT K F vs ds → D.nocs f (ds.map (·.2)) = true
  | _, _, .nil => rfl
  | _, _, .cons r t => by
    have a := r.fresh n
    have b := RepKT.fresh n t
    show (D.noc f _ && D.nocs f _) = true
    rw [a]; exact b
theorem RepFs.fresh (n : F f = none) : ∀ {vs ds}, RepFs K F vs ds → D.nocs f (ds.map (·.2)) = true
  | _, _, .nil => rfl
  | _, _, .cons r t => by
    have a := r.fresh n
    have b := RepFs.fresh n t
    show (D.noc f _ && D.nocs f _) = true
    rw [a]; exact b
theorem Cells.fresh {C : CM} (ce : Cells K F H C) (n : F f = none) : CM.fresh f C := fun a c h => by
  have r := (ce.cel a c h).1
  cases c with
  | lst xs => obtain ⟨vs, q, r⟩ := r; exact r.fresh n
  | dct xs => obtain ⟨vs, q, r⟩ := r; exact r.fresh n
  | dtp xs => obtain ⟨vs, q, r⟩ := r; exact r.fresh n
  | ins cls xs => obtain ⟨cad, dx, vs, m, q, r⟩ := r; exact r.fresh n
end
section
variable {K : PySem.W.Frag} {B : Base} {F H : Hp} {σ : L2.St} {ρ : Rho} {C : CM}
theorem caps_rel (R : Rel K B F σ H ρ C) : ∀ {js : List Nat} {ds : List D}, capsOf ρ js = some ds → ∃ ws, Reps K F ws ds ∧ js.map (slotAt σ) = ws.map some
  | [], ds, h => by cases h; exact ⟨[], .nil, rfl⟩
  | j :: js, ds, h => by
    unfold capsOf at h
    split at h
    · rename_i d hd
      cases e : capsOf ρ js with
      | none => rw [e] at h; cases h
      | some r =>
        rw [e] at h; cases h
        obtain ⟨ws, h1, h2⟩ := caps_rel R e
        obtain ⟨v, h3, h4⟩ := R.dat j d hd
        exact ⟨v :: ws, .cons h4 h1, by rw [List.map_cons, List.map_cons, h2, slotAt_of h3]⟩
    · cases h
/-- the making of a def: its table grows -/
theorem ndef_rel (R : Rel K B F σ H ρ C) {P f c' : Addr} {ps more : Array Value} {q : Str} {nf : NF} (hT : (tabsK K).lookup P = some q) (hps : H P = some (.tbl ps)) (hf : H f = none) (hc : H c' = none) (ne : f ≠ c') (ht : TriplesOk (ps ++ more).toList)
    (ha : ∀ pos cv, codeAmong pos (ps ++ more).toList = some cv → codeAmong pos ps.toList = some cv ∨ cv = .ref c') :
    Rel K B (upd (upd F c' (CodeO c' q)) f (FnO f nf)) σ (upd (upd (upd H P (.tbl (ps ++ more))) c' (CodeO c' q)) f (FnO f nf)) ρ C := by
  obtain ⟨tn, ps0, t1, t2, t3⟩ := R.ce.tb P q hT
  rw [hps] at t1
  cases t1
  have Ff := same_none R.ce.fh hf
  have Fc := same_none R.ce.fh hc
  have sF : Same F (upd (upd F c' (CodeO c' q)) f (FnO f nf)) := fun b o h => by rw [upd_ne (ne_of_none h Ff), upd_ne (ne_of_none h Fc)]; exact h
  have keep : ∀ {b : Addr} {o : HO}, H b = some o → b ≠ P → upd (upd (upd H P (.tbl (ps ++ more))) c' (CodeO c' q)) f (FnO f nf) b = some o := fun {b o} h n => by
    rw [upd_ne (ne_of_none h hf), upd_ne (ne_of_none h hc), upd_ne n]; exact h
  have inv : ∀ {b : Addr} {o : HO}, upd (upd F c' (CodeO c' q)) f (FnO f nf) b = some o → (b = f ∧ o = FnO f nf) ∨ (b = c' ∧ o = CodeO c' q) ∨ F b = some o := fun {b o} h => by
    rcases upd_inv h with ⟨a, e⟩ | ⟨_, h⟩
    · exact .inl ⟨a, e⟩
    · rcases upd_inv h with ⟨a, e⟩ | ⟨_, h⟩
      · exact .inr (.inl ⟨a, e⟩)
      · exact .inr (.inr h)
  refine ⟨R.len, ⟨fun b o h => ?_, fun a c h => ?_, fun P' q' e => ?_⟩, ⟨R.fr.ff.trans sF, fun b o h => ?_, fun b o h n nt => ?_, R.fr.cnew, fun b o h => ?_⟩, fun i d h => ?_, fun i xs h => ?_, R.dis⟩
  · rcases inv h with ⟨rfl, rfl⟩ | ⟨rfl, rfl⟩ | h
    · exact upd_same
    · rw [upd_ne ne.symm]; exact upd_same
    · exact keep (R.ce.fh _ _ h) fun z => by rw [z, tn] at h; cases h
  · obtain ⟨r, fa⟩ := R.ce.cel a c h
    obtain ⟨o, ho⟩ := r.ex
    refine ⟨r.mono sF fun o z => keep z fun y => by subst y; exact r.pl _ hps, ?_⟩
    rw [upd_ne (ne_of_none ho hf), upd_ne (ne_of_none ho hc)]; exact fa
  · by_cases z : P' = P
    · subst z
      rw [hT] at e; cases e
      refine ⟨by rw [upd_ne (ne_of_none hps hf), upd_ne (ne_of_none hps hc)]; exact tn, ps ++ more, by rw [upd_ne (ne_of_none hps hf), upd_ne (ne_of_none hps hc)]; exact upd_same, ht, fun pos cv h => ?_⟩
      rcases ha pos cv h with h | h
      · obtain ⟨c, e1, e2⟩ := t3 pos cv h
        exact ⟨c, e1, sF _ _ e2⟩
      · exact ⟨c', h, by rw [upd_ne ne.symm]; exact upd_same⟩
    · obtain ⟨n1, ps1, h1, h2, h3⟩ := R.ce.tb P' q' e
      refine ⟨by rw [upd_ne (ne_of_none h1 hf), upd_ne (ne_of_none h1 hc)]; exact n1, ps1, keep h1 z, h2, fun pos cv h => ?_⟩
      obtain ⟨c, e1, e2⟩ := h3 pos cv h
      exact ⟨c, e1, sF _ _ e2⟩
  · rcases inv h with ⟨rfl, _⟩ | ⟨rfl, _⟩ | h
    · exact .inr (R.base_none hf)
    · exact .inr (R.base_none hc)
    · exact R.fr.fnew b o h
  · have h1 := R.fr.frame b o h n nt
    exact keep h1 fun z => by subst z; rw [hps] at h1; cases h1; exact nt _ rfl
  · obtain ⟨o', h1⟩ := R.fr.stay b o h
    by_cases z : b = P
    · subst z; exact ⟨_, by rw [upd_ne (ne_of_none h1 hf), upd_ne (ne_of_none h1 hc)]; exact upd_same⟩
    · exact ⟨o', keep h1 z⟩
  · obtain ⟨v, e, r⟩ := R.dat i d h
    exact ⟨v, e, r.mono sF⟩
  · obtain ⟨a, vs, e1, e2, e3, e4, e5, e6⟩ := R.own i xs h
    refine ⟨a, vs, e1, keep e2 (fun z => by subst z; rw [hps] at e2; cases e2), e3.mono sF, ?_, e5, e6⟩
    rw [upd_ne (ne_of_none e2 hf), upd_ne (ne_of_none e2 hc)]; exact e4
end
section
variable {X : Cx}
/-- the reading of a def within a def -/
def tNdR (P : Addr) (q : Str) (i : Nat) (mk : Addr → NF) : TS := fun D σ H => ∃ ps : Array Value, H P = some (.tbl ps) ∧ TriplesOk ps.toList ∧ (∀ (pos : Pos) (cv : Value), codeAmong pos ps.toList = some cv → ∃ c, cv = .ref c ∧ H c = some (CodeO c q)) ∧
  (∀ (f c' : Addr) (more : Array Value), H f = none → H c' = none → f ≠ c' → TriplesOk (ps ++ more).toList → (∀ pos cv, codeAmong pos (ps ++ more).toList = some cv → codeAmong pos ps.toList = some cv ∨ cv = .ref c') →
    D.nx (σ.set i (some (.ref f))) (upd (upd (upd H P (.tbl (ps ++ more))) c' (CodeO c' q)) f (FnO f (mk c')))) ∧
  (∀ (f c' : Addr) (pos : Pos), H f = none → codeAmong pos ps.toList = some (.ref c') → D.nx (σ.set i (some (.ref f))) (upd H f (FnO f (mk c'))))
theorem ps_ndR {c P : Addr} {name : Str} {params : Arguments} {body : List Stmt} {scope : Scope} {pos : Pos} {i : Nat} (TB : TabB X.base X.mg c P) (hcode : X.env.code = .ref c)
    (hfree : ∀ y ∈ scope.names, y.2 = .free → X.env.scope.names.lookup y.1 = some .cell ∨ X.env.scope.names.lookup y.1 = some .free) (hd0 : params.defaults = []) (hk0 : params.kw_defaults = []) (ha : annTrees params none X.env = [])
    (hN : X.N.Nodup) (hi : X.N[i]? = some name) (hx : Loc X.env.scope name) (hf : X.fn name = true ∨ X.env.scope.names.lookup name = some .local) :
    PS X (.FunctionDef name params body [] none [] scope none name pos) (tNdR P (X.env.qual ++ name) i fun c' => ⟨name, X.env.qual ++ name, params, body, scope, cloFrom X.env.cells scope.names [], c'⟩) := by
  constructor
  intro pins s σ H Dn I ⟨ps, hP, ht, hcs, hnew, hold⟩
  have hq : qualnameIn X.env name name = X.env.qual ++ name := by
    have kd : X.env.kindOf name = some .local ∨ X.env.kindOf name = some .cell := hx
    unfold qualnameIn
    rcases kd with kd | kd
    · rw [kd]; rfl
    · rw [kd]; exact if_neg (by decide)
  have hfr : ∀ y ∈ scope.names, y.2 = .free → ∃ c, X.env.cells.lookup y.1 = some c := fun y hy e => (hfree y hy e).elim (fun z => I.ok.has _ (.inl z)) fun z => I.ok.has _ (.inr z)
  refine PySem.W.nestDef_K hd0 hk0 ha ?_
  rw [hq]
  have go : ∀ (f : Addr) (H1 : Hp) (s1 : Shared), Inv X pins σ H1 s1 → Dn.nx (σ.set i (some (.ref f))) H1 → wpAny (model X.prog X.w) X.A (storeName X.env name (.ref f)) (fun _ s'' => SP X pins Dn .next s'') X.xe s1 :=
    fun f H1 s1 I1 q => store_ok I1 hN hi hx (v := .ref f) rfl (fun s'' J => ⟨_, H1, J, q⟩) hf
  have bP : s.heap.BuiltinsAt X.mg P := TB.bm.keeps I.bk
  have hP' : s.heap.get? P = some { cls := .none, data := .fields ps } := I.hok P _ hP
  cases hcm : codeAmong pos ps.toList with
  | none =>
    refine PySem.W.makeFunction_K (mg := X.mg) (c := c) (P := P) (ps := ps) (closure_ok hfr) I.ok.glob (I.mod.glob.keeps I.bk) hcode (TB.code.keeps I.bk) hP' ht hcm TB.gP bP fun c' ctv doc h' tk hx2 hge hlt hrec htb => ?_
    obtain ⟨c2, oc, vs, t, e2, hoc, hd, hv⟩ := hrec
    cases e2
    have nC : H c' = none := I.hok.fresh hge
    have nF : H h'.objs.size = none := I.hok.fresh (Nat.le_trans hge (Nat.le_of_lt hlt))
    have eL : (ps ++ #[rawInt pos.line, rawInt pos.col, .ref c']).toList = ps.toList ++ [rawInt pos.line, rawInt pos.col, .ref c'] := by simp
    have I1 := inv_table (t' := tk) (q := X.env.qual ++ name) (more := #[rawInt pos.line, rawInt pos.col, .ref c']) (h' := h') I hP (fun b o hb e => hx2 b o hb e) htb hge ⟨oc, vs, t, hoc, hd, hv⟩
    have I2 := inv_fn (F := ⟨name, X.env.qual ++ name, params, body, scope, cloFrom X.env.cells scope.names [], c'⟩) (t' := tk) (doc := doc) (pm := (X.mg "__name__").getD .none) (ctv := ctv) I1 rfl
    refine go _ _ _ I2 (hnew _ c' _ nF nC (Nat.ne_of_gt hlt) ?_ fun pos' cv h => ?_)
    · rw [eL]; exact PySem.TriplesOk_snoc _ _ _ _ ht
    · rw [eL] at h
      exact among_app _ ht h
  | some cv =>
    obtain ⟨c', e, hco⟩ := hcs pos cv hcm
    subst e
    refine PySem.W.makeFunction_hit (mg := X.mg) (c := c) (P := P) (ps := ps) (closure_ok hfr) I.ok.glob (I.mod.glob.keeps I.bk) hcode (TB.code.keeps I.bk) hP' ht hcm bP fun ctv doc h' tk hx2 hsz => ?_
    have I1 : Inv X pins σ H { s with heap := h', toks := tk } := I.kept hx2
    have nF : H h'.objs.size = none := I1.hok.fresh (Nat.le_refl _)
    have I2 := inv_fn (F := ⟨name, X.env.qual ++ name, params, body, scope, cloFrom X.env.cells scope.names [], c'⟩) (t' := tk) (doc := doc) (pm := (X.mg "__name__").getD .none) (ctv := ctv) I1 rfl
    exact go _ _ _ I2 (hold _ c' pos nF hcm)
/-- .. of its meaning -/
theorem s_ndef {P : Addr} {q : Str} {i : Nat} {mk : String} {cl : List (Str × Addr)} {st : Stmt} {nfo : Addr → NF} (hT : (tabsK X.K).lookup P = some q) (hnf : ∀ c', NfK X.K mk (nfo c')) (hcl : ∀ c', (nfo c').cl = cl) (hc : ∀ c', (nfo c').c = c') (hq : ∀ c', (nfo c').qual = q)
    (h : PS X st (tNdR P q i nfo)) : PS X st (rdS X.K fun A ρ C => ∀ f, CM.fresh f C → (∀ (j : Nat) (d : D), ρ[j]? = some (some (Dv.dat d)) → d.noc f = true) → A.nx (ρ.set i (some (.dat (.opn mk f cl)))) C) :=
  ps_weak h fun D σ H ⟨B, F, ρ, C, A, R, m, k1, _⟩ => by
    obtain ⟨tn, ps, t1, t2, t3⟩ := R.ce.tb P q hT
    have fr : ∀ {f : Addr}, H f = none → A.nx (ρ.set i (some (.dat (.opn mk f cl)))) C := fun {f} hf => by
      have Ff := same_none R.ce.fh hf
      exact m f (R.ce.fresh Ff) fun j d hj => by obtain ⟨v, _, r⟩ := R.dat j d hj; exact r.fresh Ff
    have rep : ∀ {F' : Hp} {f c' : Addr}, F' f = some (FnO f (nfo c')) → F' c' = some (CodeO c' q) → Rep X.K F' (.ref f) (.opn mk f cl) := fun {F' f c'} h1 h2 => by
      have r := Rep.opn (F := F') (hnf c') h1 (by rw [hc, hq]; exact h2)
      rw [hcl] at r; exact r
    refine ⟨ps, t1, t2, fun pos cv hcv => ?_, fun f c' more hf hc' ne ht ha => ?_, fun f c' pos hf hcm => ?_⟩
    · obtain ⟨c, e1, e2⟩ := t3 pos cv hcv
      exact ⟨c, e1, R.ce.fh _ _ e2⟩
    · have R1 := ndef_rel (nf := nfo c') R hT t1 hf hc' ne ht ha
      have e1 : upd (upd F c' (CodeO c' q)) f (FnO f (nfo c')) f = some (FnO f (nfo c')) := upd_same
      have e2 : upd (upd F c' (CodeO c' q)) f (FnO f (nfo c')) c' = some (CodeO c' q) := by rw [upd_ne ne.symm]; exact upd_same
      exact k1 _ C _ _ _ (fun b o h => by rw [upd_ne (ne_of_none h (same_none R.ce.fh hf)), upd_ne (ne_of_none h (same_none R.ce.fh hc'))]; exact h) (R1.setDat i (rep e1 e2)) (fr hf)
    · obtain ⟨c, e1, e2⟩ := t3 pos _ hcm
      cases e1
      have g := Grow.new (o := FnO f (nfo c')) R.ce.fh hf
      exact k1 _ C _ _ _ g.ff ((R.grow g).setDat i (rep upd_same (g.ff _ _ e2))) (fr hf)
/-- g(the def of the frame, ..) -/
theorem pe_callc {n i : Nat} {mk' : String} {js : List Nat} {x y : Str} {p p2 pos : Pos} {es : List Expr} {me : ML} {Γg : List D → CM → (D → CM → Prop) → Prop} {g : Addr} {fd : FuncData} {ps : List Str} {cl : List (Str × Addr)} {sc : Scope} {E : XK}
    (gd : X.A.guards = some []) (hr : Room n X.A) (Fg : FnG X.prog X.w X.K X.mg X.base CX0 n g fd ps (spOf X.K Γg)) (hg : Gl X x) (hm : X.mg x = some (.ref g)) (hk : PySem.W.keepIn X.K (.ref g) = true) (hb : Binds X.K fd ps [])
    (hi : X.N[i]? = some y) (hv : Vis X.env.scope y) (hfn : ∀ x, X.fn x = true) (hcl : cl = cloFrom X.env.cells sc.names []) (hsc : ∀ nf, NfK X.K mk' nf → nf.scope = sc)
    (hfree : ∀ y ∈ sc.names, y.2 = .free → X.env.scope.names.lookup y.1 = some .cell ∨ X.env.scope.names.lookup y.1 = some .free) (hfr : ∀ y ∈ freeOf sc, (y, NameKind.free) ∈ sc.names) (hjs : js.map (fun j => X.N[j]?) = (freeOf sc).map some)
    (ha : PA X es (rdA X.K me)) (hdb : (x == ("__debug__" : Str)) = false) (hyb : (y == ("__debug__" : Str)) = false) (hyc : (y == ("__classdict__" : Str)) = false) (hpl : (backTo pos (starEach es X.env)).any (·.1) = false) :
    PE X (.Call (.Name x p) (.Name y p2 :: es) [] pos) (rd X.K fun ρ C P => varD ρ i fun d0 => match d0 with
      | .opn mk f cl' => mk = mk' ∧ cl' = cl ∧ me ρ C fun ds ρ1 C1 => ∃ caps, capsOf ρ1 js = some caps ∧ D.nocs f ds = true ∧ D.nocs f caps = true ∧
        Γg (.clo mk f caps :: ds) C1 (fun d C2 => d.noc f = true ∧ P d ρ1 (C2.drop f))
      | _ => False) := by
  constructor
  intro pins s σ H Q I ⟨B, F, ρ, C, P, R, m, k⟩
  unfold varD at m
  try dsimp only at m
  split at m
  case h_2 => exact m.elim
  rename_i d0 hd0
  try dsimp only at m
  split at m
  case h_2 => exact m.elim
  rename_i mk f cl'
  obtain ⟨emk, ecl, m⟩ := m
  subst ecl emk
  obtain ⟨v0, es0, r0⟩ := R.dat i _ hd0
  cases r0 with
  | opn hn h1 h2 =>
  rename_i nf
  have esc : nf.scope = sc := hsc nf hn
  let Z : List V → Hp → Prop := fun us2 H2 => ∃ (vs : List V) (ds : List D) (ρ1 : Rho) (C1 : CM) (F1 : Hp) (caps : List D), us2 = .ref f :: vs ∧ Same F F1 ∧ Rel X.K B F1 σ H2 ρ1 C1 ∧ Reps X.K F1 vs ds ∧ capsOf ρ1 js = some caps ∧ D.nocs f ds = true ∧ D.nocs f caps = true ∧
    Γg (.clo mk f caps :: ds) C1 (fun d C2 => d.noc f = true ∧ P d ρ1 (C2.drop f))
  have hA : PA X (.Name y p2 :: es) (tCons (tVar i) (rdA X.K me)) := pa_cons (pe_var hi hv hyb hyc) ha rfl
  refine wpAny_Call_Name_kw (ld_glob I hg hm (PySem.W.callWith_K (h₀ := X.base) I.ok.mod.kin hk (thn (hA.run pos pins s σ H Z I ⟨.ref f, es0, B, F, ρ, C, _, R, m, fun ds ρ1 C1 F1 vs H2 s12 R1 rr ⟨caps, q1, q2, q3, q4⟩ => ⟨vs, ds, ρ1, C1, F1, caps, rfl, s12, R1, rr, q1, q2, q3, q4⟩⟩)
    fun us s2 ⟨us2, H2, I2, rv, vs, ds, ρ1, C1, F1, caps, eu, s12, R1, rr, hcap, n1, n2, q⟩ => ⟨I2.kIn, ?_⟩) rfl hpl) hdb)
  subst eu
  obtain ⟨ws, hws, ewj⟩ := caps_rel R1 hcap
  have cp : Caps X nf.cl (freeOf sc) js := by rw [hcl]; exact Caps.made I2.ok hfree hfr hjs
  have cc := cells_of I2 cp
  rw [ewj] at cc
  let S : Addr → Prop := fun a => ∃ y, nf.cl.lookup y = some a
  let ob : Addr → Obj := fun a => (s2.heap.get? a).getD { cls := .none, data := .fields #[] }
  have hS : ∀ a, S a → H2 a = none := fun a ⟨y, e⟩ => (cc.all y a e).1
  have hO : ∀ a, S a → s2.heap.get? a = some (ob a) := fun a ⟨y, e⟩ => by
    obtain ⟨_, v, o, ho, _⟩ := cc.all y a e
    show _ = some ((s2.heap.get? a).getD _)
    rw [ho]; rfl
  have big : ∀ a, S a → X.s_0.heap.objs.size ≤ a := fun a ⟨y, e⟩ => I2.ok.cab y a (hfn y) (cp.sub y a e)
  have nS : ∀ {a : Addr} {o : HO}, H2 a = some o → ¬ S a := fun {a o} e z => by rw [hS a z] at e; cases e
  have nSF : ∀ {a : Addr} {o : HO}, F1 a = some o → ¬ S a := fun {a o} e => nS (R1.ce.fh _ _ e)
  have e0 := I2.env0
  have e1 : Env0 X.prog X.w X.K X.mg X.base X.A X.stack s2 (addS S (fun a => some (.frz (ob a) (.own f))) H2) := ⟨e0.frames, e0.mod, fun b o e => ⟨(e0.bs b o e).1, by
    rw [addS_out]
    · exact (e0.bs b o e).2
    · intro z
      exact absurd (Nat.lt_of_lt_of_le (Heap.lt_size e) (Nat.le_trans I2.ok.bsz (big b z))) (Nat.lt_irrefl _)⟩, e0.bsz, e0.funs, fun b hb => by
    rw [addS_out]
    · exact e0.frf b hb
    · intro z
      rcases List.mem_cons.mp (I2.stkSub b hb) with e | hb
      · obtain ⟨y, ey⟩ := z
        exact I2.cne y b (cp.sub y b ey) e
      · obtain ⟨_, o, ho, _⟩ := I2.ok.funs.mem hb
        exact absurd (Nat.lt_of_lt_of_le (Heap.lt_size ho) (big b z)) (Nat.lt_irrefl _), hok_add hS hO e0.hok, e0.bare⟩
  have sF : Same F1 (addS S (fun a => some (.frz (ob a) (.own f))) F1) := fun b o h => by rw [addS_out (nSF h)]; exact h
  have repc : Rep X.K (addS S (fun a => some (.frz (ob a) (.own f))) F1) (.ref f) (.clo mk f caps) := by
    refine .clo hn (sF _ _ (s12 _ _ h1)) (sF _ _ (s12 _ _ h2)) (vs := ws) ?_ (hws.mono sF)
    rw [esc]
    refine ⟨by have := cc.len; rwa [List.length_map] at this, cc.inj, fun y c e => ?_, fun j y e => ?_⟩
    · obtain ⟨_, v, o, ho, hd⟩ := cc.all y c e
      have z : S c := ⟨y, e⟩
      have eo := hO c z
      rw [ho] at eo; cases eo
      exact ⟨ob c, v, addS_in z, hd⟩
    · obtain ⟨c, e2, hh⟩ := cc.has j y e
      obtain ⟨w, hw⟩ : ∃ w, ws[j]? = some w := by
        have hl : j < (freeOf sc).length := (List.getElem?_eq_some_iff.mp e).1
        have := cc.len
        rw [List.length_map] at this
        exact ⟨ws[j]'(by omega), List.getElem?_eq_getElem (by omega)⟩
      obtain ⟨u, ru, o, ho, hd⟩ := hh w (by rw [List.getElem?_map, hw]; rfl)
      have z : S c := ⟨y, e2⟩
      have eo := hO c z
      rw [ho] at eo; cases eo
      exact ⟨c, ob c, w, u, e2, addS_in z, hd, hw, ru⟩
  have cadd := R1.ce.add (f := f) (ob := ob) hS
  have sp : spOf X.K Γg (.ref f :: vs) (addS S (fun a => some (.frz (ob a) (.own f))) H2) (fun v H3 => ∃ d C2 F3, Cells X.K F3 H3 C2 ∧ Fr (addS S (fun a => some (.frz (ob a) (.own f))) H2) (addS S (fun a => some (.frz (ob a) (.own f))) F1) C1 H3 F3 C2 ∧ Rep X.K F3 v d ∧ d.noc f = true ∧ P d ρ1 (C2.drop f)) (fun _ _ _ => False) :=
    ⟨_, C1, _, _, cadd, .cons repc (rr.mono sF), q, fun d C2 F3 v H3 c3 f3 r3 ⟨p3, p4⟩ => ⟨d, C2, F3, c3, f3, r3, p3, p4⟩⟩
  have hl : us.length = ps.length := by rw [← rv.length]; exact Fg.len _ _ _ _ sp
  refine wpAny_call (codeAny_mono (Fg.run X.A X.stack s2 _ ⟨us, []⟩ us (.ref f :: vs) _ _ gd hr e1 (by have := hb s2 us I2.kIn (by rw [List.append_nil]; exact hl); rwa [List.append_nil] at this) rv sp) fun z s' hq => ?_)
  rcases z with er | fl
  · exact False.elim hq
  · cases fl with
    | ret u =>
      obtain ⟨v, H', I3, rv3, H3, eH, d, C2, F3, c3, f3, r3, p3, p4⟩ := I2.after (ce_sub hS hO hq)
      subst eH
      obtain ⟨b1, b2, b3⟩ := cells_sub R1.ce hS c3 f3
      exact ⟨v, _, I3, rv3, k d ρ1 _ _ v _ (s12.trans b2.ff) (R1.step b2 b1) (r3.kp b3 p3) p4⟩
    | next => exact False.elim hq
    | brk => exact False.elim hq
    | cont => exact False.elim hq
end
end M61

set_option Elab.async false
set_option linter.all false
set_option autoImplicit false
set_option maxRecDepth 100000
/-! M4s: a def that makes a def and returns it; methods; instances made. -/
namespace M61
open PySem PySem.Spec PyProof.Rows L2 NdefX LamX
theorem Fr.add {H F H1 F1 : Hp} {C C1 : CM} {S : Addr → Prop} {g : Addr → Option HO} (fr : Fr H F C H1 F1 C1) (h0 : ∀ a, S a → H a = none) (f0 : ∀ a, S a → F a = none) (hg : ∀ a, S a → ∃ o, g a = some o) : Fr H F C (addS S g H1) (addS S g F1) C1 := by
  have nS : ∀ {a : Addr} {o : HO}, H a = some o → ¬ S a := fun {a o} e z => by rw [h0 a z] at e; cases e
  refine ⟨fun b o h => ?_, fun a o h => ?_, fun a o h n nt => ?_, fr.cnew, fun a o h => ?_⟩
  · have n : ¬ S b := fun z => by rw [f0 b z] at h; cases h
    rw [addS_out n]; exact fr.ff b o h
  · by_cases z : S a
    · exact .inr (h0 a z)
    · rw [addS_out z] at h; exact fr.fnew a o h
  · rw [addS_out (nS h)]; exact fr.frame a o h n nt
  · rw [addS_out (nS h)]; exact fr.stay a o h
theorem start_rel' {K : PySem.W.Frag} {N : List Str} {F H : Hp} {C : CM} {vs : List V} {ds : List D} {m : Nat} (ce : Cells K F H C) (r : Reps K F vs ds) (hm : m = N.length - ds.length) :
    Rel K ⟨H, F, C⟩ F (start N vs) H (ds.map (fun d => some (Dv.dat d)) ++ List.replicate m none) C where
  len := by
    show _ = (vs.map some ++ List.replicate (N.length - vs.length) none).length
    rw [List.length_append, List.length_append, List.length_map, List.length_map, List.length_replicate, List.length_replicate, r.length, hm]
  ce := ce
  fr := .refl _ _ _
  dat := fun i d h => by
    rw [List.getElem?_append] at h
    split at h
    · rename_i hi
      rw [List.length_map] at hi
      rw [List.getElem?_map] at h
      cases e : ds[i]? with
      | none => rw [e] at h; cases h
      | some d' =>
        rw [e] at h
        cases h
        obtain ⟨v, e2, r2⟩ := r.getD e
        refine ⟨v, ?_, r2⟩
        show (vs.map some ++ _)[i]? = _
        rw [List.getElem?_append_left (by rw [List.length_map, r.length]; exact hi), List.getElem?_map, e2]; rfl
    · rw [List.getElem?_replicate] at h
      split at h <;> cases h
  own := fun i xs h => by
    exfalso
    rw [List.getElem?_append] at h
    split at h
    · rw [List.getElem?_map] at h
      cases e : ds[i]? <;> rw [e] at h <;> cases h
    · rw [List.getElem?_replicate] at h
      split at h <;> cases h
  dis := fun i j xs ys a _ h => by
    exfalso
    rw [List.getElem?_append] at h
    split at h
    · rw [List.getElem?_map] at h
      cases e : ds[i]? <;> rw [e] at h <;> cases h
    · rw [List.getElem?_replicate] at h
      split at h <;> cases h
section
variable {P : Program} {w : World} {K : PySem.W.Frag} {mg : Str → Option Value} {base : Heap}
/-- def f(..): def g(..): ..; return g -/
theorem fn_mkr {mk : String} {js : List Nat} {i k : Nat} {x qual name : Str} {st : Stmt} {fa c Pt : Addr} {fd : FuncData} {N ps : List Str} {params : Arguments} {body : List Stmt} {scope : Scope} {pos p2 p3 : Pos} {q : Str} (Fn : Fun K x qual st fa fd) (S : FnScope N ps (defScope st))
    (hbd : defBody st = [.FunctionDef name params body [] none [] scope none name pos, .Return (some (.Name name p2)) p3]) (TB : TabB base mg c Pt) (hcd : fd.code = .ref c) (hT : (tabsK K).lookup Pt = some q) (hq : q = qual ++ ".<locals>." ++ name)
    (hnf : ∀ cl c', NfK K mk ⟨name, q, params, body, scope, cl, c'⟩)
    (hfree : ∀ y ∈ scope.names, y.2 = .free → (defScope st).names.lookup y.1 = some .cell ∨ (defScope st).names.lookup y.1 = some .free) (hfr : ∀ y ∈ freeOf scope, (y, NameKind.free) ∈ scope.names) (hjs : js.map (fun j => N[j]?) = (freeOf scope).map some) (hij : i ∉ js)
    (hd0 : params.defaults = []) (hk0 : params.kw_defaults = []) (ha : ∀ env : Env, annTrees params none env = [])
    (hi : N[i]? = some name) (hloc : (defScope st).names.lookup name = some .local) (hdb : (name == ("__debug__" : Str)) = false) (hcl : (name == ("__classdict__" : Str)) = false) :
    FnG P w K mg base CX0 (k + 1) fa fd ps (spOf K fun ds C Q => ds.length = ps.length ∧ ∃ caps, capsOf (ds.map (fun d => some (Dv.dat d)) ++ List.replicate (N.length - ps.length) none) js = some caps ∧ ∀ f, CM.fresh f C → D.nocs f caps = true → Q (.clo mk f caps) C) := by
  obtain ⟨oc, od, kV, doc, pm, an, cdv, ct, osl, rfl, lk, hco⟩ := Fn.ex
  have hcv : cdv = .ref c := hcd
  subst hcv
  constructor
  · intro vs H Q E ⟨F, C, ds, R, ce, rs, ⟨g1, g⟩, kk⟩
    rw [rs.length]; exact g1
  intro A out s H ar us vs Q E gd hr e0 hbi r ⟨F, C, ds, R, ce, rs, ⟨hl0, caps, hcap, hR⟩, kk⟩
  have hl : vs.length = ps.length := by rw [rs.length]; exact hl0
  have KX : K.In s.heap := e0.mod.kin.keeps fun b o e => (e0.bs b o e).1
  have lim : s.heap.NoLimit := e0.mod.nolimit.keeps fun b o e => (e0.bs b o e).1
  have kd : ∀ y ∈ ps.zip us, (defScope st).names.lookup y.1 = some .local ∨ ((defScope st).names.lookup y.1 = some .cell ∧ ((cellsFrom (s.heap.objs.size + 1) (defScope st).names []).lookup y.1).isSome = true) := by
    intro y hy
    rcases S.par y.1 (List.of_mem_zip (show (y.1, y.2) ∈ ps.zip us from hy)).1 with z | z
    · exact Or.inl z
    · exact Or.inr ⟨z, PySem.W.cellsFrom_some _ _ _ (Or.inl z)⟩
  refine codeAny_call_function hr.depth (KX _ _ lk) rfl S.co S.gen rfl (PySem.W.codeRec_of KX hco) (hbi _ _ _ _ (wpAny_newFunctionEnv_cells S.kind kd fun env he s1 xx => ?_))
  subst he
  refine ⟨lim.keeps xx.toInCall.keep, codeAny_func ?_⟩
  have I : Inv (cxOf CX0 P w K mg base N qual (defScope st) fa (.ref c) A out s H E) [] (start N vs) H s1 := inv_start S hr.hd e0 hl r xx
  have R0 := start_rel' (N := N) ce rs (m := N.length - ps.length) (by rw [hl0])
  obtain ⟨tn, pst, t1, t2, t3⟩ := ce.tb Pt q hT
  let Z : L2.St → Hp → Prop := fun σ' H1 => ∃ (f c' : Addr) (F1 : Hp), σ' = (start N vs).set i (some (.ref f)) ∧ Rel K ⟨H, F, C⟩ F1 (start N vs) H1 (ds.map (fun d => some (Dv.dat d)) ++ List.replicate (N.length - ps.length) none) C ∧ F1 f = some (FnO f ⟨name, q, params, body, scope, cloFrom (cellsFrom (s.heap.objs.size + 1) (defScope st).names []) scope.names [], c'⟩) ∧
    F1 c' = some (CodeO c' q) ∧ CM.fresh f C ∧ D.nocs f caps = true ∧ Same F F1
  have rd0 : tNdR Pt q i (fun c' => (⟨name, q, params, body, scope, cloFrom (cellsFrom (s.heap.objs.size + 1) (defScope st).names []) scope.names [], c'⟩ : NF)) ({ nx := Z, rt := fun _ _ => False } : L2.Ends) (start N vs) H := by
    obtain ⟨ws, hws, _⟩ := caps_rel R0 hcap
    refine ⟨pst, t1, t2, fun pos cv hcv => ?_, fun f c' more hf hc' ne ht hat => ?_, fun f c' pos hf hcm => ?_⟩
    · obtain ⟨c2, e1, e2⟩ := t3 pos cv hcv
      exact ⟨c2, e1, ce.fh _ _ e2⟩
    · have Ff := same_none ce.fh hf
      have R1 := ndef_rel (nf := ⟨name, q, params, body, scope, cloFrom (cellsFrom (s.heap.objs.size + 1) (defScope st).names []) scope.names [], c'⟩) R0 hT t1 hf hc' ne ht hat
      exact ⟨f, c', _, rfl, R1, upd_same, by rw [upd_ne ne.symm]; exact upd_same, ce.fresh Ff, hws.fresh Ff, fun b o h => by rw [upd_ne (ne_of_none h Ff), upd_ne (ne_of_none h (same_none ce.fh hc'))]; exact h⟩
    · obtain ⟨c2, e1, e2⟩ := t3 pos _ hcm
      cases e1
      have Ff := same_none ce.fh hf
      have g := Grow.new (o := FnO f ⟨name, q, params, body, scope, cloFrom (cellsFrom (s.heap.objs.size + 1) (defScope st).names []) scope.names [], c'⟩) ce.fh hf
      exact ⟨f, c', _, rfl, R0.grow g, upd_same, g.ff _ _ e2, ce.fresh Ff, hws.fresh Ff, g.ff⟩
  have first := ps_ndR (X := cxOf CX0 P w K mg base N qual (defScope st) fa (.ref c) A out s H E) (i := i) (pos := pos) (body := body) TB rfl hfree hd0 hk0 (ha _) S.nd hi (.inl hloc) (.inl rfl)
  have eq1 : (cxOf CX0 P w K mg base N qual (defScope st) fa (.ref c) A out s H E).env.qual ++ name = q := hq.symm
  rw [eq1] at first
  show wpAny _ _ (execs (defBody st) _) _ _ _
  rw [hbd]
  refine wpAny_execs_cons (thn (first.run [] s1 (start N vs) H _ I rd0) fun fl s2 hz => ?_)
  cases fl with
  | next =>
    obtain ⟨σ', H1, J, f, c', F1, eσ, R1, h1, h2, hfre, hno, s01⟩ := hz
    refine wpAny_execs_cons (wpAny_Return_some (thn ((pe_var (X := cxOf CX0 P w K mg base N qual (defScope st) fa (.ref c) A out s H E) (i := i) (pos := p2) hi (.inl hloc) hdb hcl).run [] s2 σ' H1 (fun v G => v = .ref f ∧ G = H1) J ⟨.ref f, ?_, rfl, rfl⟩) fun u s3 ⟨v, G, J2, r2, q2⟩ => ?_))
    · rw [eσ, List.getElem?_set_self]
      have q1 := I.len
      have q2 : i < N.length := (List.getElem?_eq_some_iff.mp hi).1
      have q3 : (start N vs).length = N.length := q1
      omega
    obtain ⟨rfl, rfl⟩ := q2
    cases r2
    -- the end
    let cl := cloFrom (cellsFrom (s.heap.objs.size + 1) (defScope st).names []) scope.names []
    obtain ⟨ws, hws, ewj⟩ := caps_rel R1 hcap
    have cp : Caps (cxOf CX0 P w K mg base N qual (defScope st) fa (.ref c) A out s H E) cl (freeOf scope) js := Caps.made J2.ok hfree hfr hjs
    have cc := cells_of J2 cp
    have ej : js.map (slotAt σ') = ws.map some := by
      rw [← ewj, eσ]
      refine List.map_congr_left fun j hj => ?_
      unfold NdefX.slotAt
      rw [List.getElem?_set_ne (fun z => hij (by rw [z]; exact hj))]
    rw [ej] at cc
    let Sc : Addr → Prop := fun a => ∃ y, cl.lookup y = some a
    let ob : Addr → Obj := fun a => (s3.heap.get? a).getD { cls := .none, data := .fields #[] }
    have hS : ∀ a, Sc a → G a = none := fun a ⟨y, e⟩ => (cc.all y a e).1
    have hO : ∀ a, Sc a → s3.heap.get? a = some (ob a) := fun a ⟨y, e⟩ => by
      obtain ⟨_, v, o, ho, _⟩ := cc.all y a e
      show _ = some ((s3.heap.get? a).getD _)
      rw [ho]; rfl
    have big : ∀ a, Sc a → s.heap.objs.size ≤ a := fun a ⟨y, e⟩ => J2.ok.cab y a rfl (cp.sub y a e)
    have h0 : ∀ a, Sc a → H a = none := fun a z => e0.hok.fresh (big a z)
    have f0 : ∀ a, Sc a → F a = none := fun a z => same_none ce.fh (h0 a z)
    have nS : ∀ {a : Addr} {o : HO}, G a = some o → ¬ Sc a := fun {a o} e z => by rw [hS a z] at e; cases e
    have sF : Same F1 (addS Sc (fun a => some (.frz (ob a) (.own f))) F1) := fun b o h => by rw [addS_out (nS (R1.ce.fh _ _ h))]; exact h
    have cadd := R1.ce.add (f := f) (ob := ob) hS
    have repc : Rep K (addS Sc (fun a => some (.frz (ob a) (.own f))) F1) (.ref f) (.clo mk f caps) := by
      refine .clo (hnf cl c') (sF _ _ h1) (sF _ _ h2) (vs := ws) ?_ (hws.mono sF)
      refine ⟨by have := cc.len; rwa [List.length_map] at this, cc.inj, fun y c e => ?_, fun j y e => ?_⟩
      · obtain ⟨_, v, o, ho, hd⟩ := cc.all y c e
        have z : Sc c := ⟨y, e⟩
        have eo := hO c z
        rw [ho] at eo; cases eo
        exact ⟨ob c, v, addS_in z, hd⟩
      · obtain ⟨c, e2, hh⟩ := cc.has j y e
        obtain ⟨w, hw⟩ : ∃ w, ws[j]? = some w := by
          have hl : j < (freeOf scope).length := (List.getElem?_eq_some_iff.mp e).1
          have := cc.len
          rw [List.length_map] at this
          exact ⟨ws[j]'(by omega), List.getElem?_eq_getElem (by omega)⟩
        obtain ⟨u, ru, o, ho, hd⟩ := hh w (by rw [List.getElem?_map, hw]; rfl)
        have z : Sc c := ⟨y, e2⟩
        have eo := hO c z
        rw [ho] at eo; cases eo
        exact ⟨c, ob c, w, u, e2, addS_in z, hd, hw, ru⟩
    have un := J2.base
    refine ⟨.ref f, _, J2.os, J2.bare, ⟨fun b o e n hb hx => un.keep b o e n hb hx, fun b o e n hb hx => un.slot b o e n hb hx, fun b o e n hx => ?_, fun b o e hx => un.there b o e hx, fun b xs e => ?_, fun b o x e => ?_, fun b ps e => ?_⟩, hok_add hS hO J2.hok, rfl,
      kk (.clo mk f caps) C _ (.ref f) _ cadd (R1.fr.add h0 f0 fun a _ => ⟨_, rfl⟩) repc (hR f hfre hno)⟩
    · rw [addS_out]
      · exact un.free b o e n hx
      · intro z; exact absurd (Nat.lt_of_lt_of_le (Heap.lt_size e) (big b z)) (Nat.lt_irrefl _)
    · rw [addS_out]
      · exact un.tups b xs e
      · intro z; rw [h0 b z] at e; cases e
    · rw [addS_out]
      · exact un.frzs b o x e
      · intro z; rw [h0 b z] at e; cases e
    · rw [addS_out]
      · exact un.tbls b ps e
      · intro z; rw [h0 b z] at e; cases e
  | ret v => obtain ⟨_, _, _, _, _, z⟩ := hz; exact z.elim
  | brk => obtain ⟨_, _, _, z⟩ := hz; exact z.elim
  | cont => obtain ⟨_, _, _, z⟩ := hz; exact z.elim
end
end M61

set_option Elab.async false
set_option linter.all false
set_option autoImplicit false
set_option maxRecDepth 100000
/-! M4t: methods called, instances made. -/
namespace M61
open PySem PySem.Spec PyProof.Rows L2
section
variable {X : Cx} {CX : CXT} {k : Nat} {f C : Addr} {fd : FuncData} {ps : List Str} {sp : Sp} {E : XK} {x m : Str} {p pos apos : Pos} {e o : Expr} {es : List Expr} {ta : TE} {t : TA}
theorem pe_methG {pl : Sem Bool} (he : PE X o ta) (cl : Cls X.K C) (hm : Meth X.K C m f) (Fg : FnG X.prog X.w X.K X.mg X.base CX k f fd ps sp) (gd : X.A.guards = some []) (hr : Room k X.A) (hb : Binds X.K fd ps []) (hx : Passes CX X E) (ha : PA X (e :: es) t)
    (hst : starEach (e :: es) X.env = (false, eval e X.env) :: starEach es X.env) (hpl : (backTo pos (starEach es X.env)).any (·.1) = false)
    (ht : eval (.Call (.Attribute o m apos) (e :: es) [] pos) X.env = (do
      let ov ← eval o X.env
      standAt apos.atName
      let (f, first) ← holding [ov] (getMethod ov m pl)
      callWith pos f first (backTo pos (starEach (e :: es) X.env)) (backToKw pos (keywordEach [] X.env)))) :
    PE X (.Call (.Attribute o m apos) (e :: es) [] pos) (tMeth C m sp [] E ta t) := by
  constructor
  intro pins s σ H Q I h
  refine PySem.W.methodCall_KW (pl := pl) (thn (he.run pins s σ H _ I h) fun u0 s1 ⟨x0, H1, I1, rx, a, dx, fs, ex, ea, hl, q⟩ => ?_) ht
  subst ex
  cases rx
  refine getmeth_ok I1 ea cl hm hl (PySem.W.callWith_K (first := [.ref a]) (h₀ := X.base) I.ok.mod.kin hm.kp (thn (ha.run pos pins s1 σ H1 _ I1 q) fun us s2 ⟨vs, H2, I2, r, q2⟩ => ⟨I2.kIn, ?_⟩) hst hpl)
  exact run_fnG (us := .ref a :: us) (vs := .ref a :: vs) Fg gd hr hb .nil hx I2 (.cons rfl r) q2
theorem pe_methG0 {pl : Sem Bool} (he : PE X o ta) (cl : Cls X.K C) (hm : Meth X.K C m f) (Fg : FnG X.prog X.w X.K X.mg X.base CX k f fd ps sp) (gd : X.A.guards = some []) (hr : Room k X.A) (hb : Binds X.K fd ps []) (hx : Passes CX X E)
    (ht : eval (.Call (.Attribute o m apos) [] [] pos) X.env = (do
      let ov ← eval o X.env
      standAt apos.atName
      let (f, first) ← holding [ov] (getMethod ov m pl)
      callWith pos f first (backTo pos (starEach [] X.env)) (backToKw pos (keywordEach [] X.env)))) :
    PE X (.Call (.Attribute o m apos) [] [] pos) (tMeth C m sp [] E ta tNil) := by
  constructor
  intro pins s σ H Q I h
  refine PySem.W.methodCall_KW (pl := pl) (thn (he.run pins s σ H _ I h) fun u0 s1 ⟨x0, H1, I1, rx, a, dx, fs, ex, ea, hl, q⟩ => ?_) ht
  subst ex
  cases rx
  exact getmeth_ok I1 ea cl hm hl (PySem.W.callWith_K0 (first := [.ref a]) I1.kIn hm.kp (run_fnG (us := [.ref a]) (vs := [.ref a]) Fg gd hr hb .nil hx I1 (.cons rfl .nil) q))
theorem e_meth {cls m : String} {cad : Addr} {g : List D → CM → (D → CM → Prop) → Prop} {ma : ME} {me : ML} {e : Expr} (hn : PySem.W.nsIn X.K mainGlobals (Str.ofString cls) = some (some (.ref cad))) (h : PE X e (tMeth cad (Str.ofString m) (spOf X.K g) [] E (rd X.K ma) (rdA X.K me))) :
    PE X e (rd X.K fun ρ C P => ma ρ C fun x ρ1 C1 => match x with
      | .ref p => ∃ fs, C1 p = some (.ins cls fs) ∧ fldAt fs m = none ∧ me ρ1 C1 fun ds ρ2 C2 => g (.ref p :: ds) C2 (fun d C3 => P d ρ2 C3)
      | _ => False) := pe_weak h fun σ H Q ⟨B, F, ρ, C, P, R, m0, kk⟩ => by
  refine ⟨B, F, ρ, C, _, R, m0, fun x ρ1 C1 F1 v1 H1 s1 R1 r1 q1 => ?_⟩
  try dsimp only at q1
  split at q1
  · rename_i p
    obtain ⟨fs, hp, hf, q1⟩ := q1
    cases r1
    obtain ⟨cad2, dx, vs, hn2, hl, ra⟩ := (R1.ce.cel _ _ hp).1
    rw [hn] at hn2
    cases hn2
    refine ⟨p, dx, vs, rfl, hl, ra.no hf, B, F1, ρ1, C1, _, R1, q1, fun ds ρ2 C2 F2 ws H2 s2 R2 r2 q2 => ?_⟩
    show spOf X.K g (V.ref p :: (ws ++ [])) H2 Q E
    rw [List.append_nil]
    exact ⟨F2, C2, _, _, R2.ce, .cons (.ref p) r2, q2, fun d C3 F3 v3 H3 c3 f3 r3 p3 => kk d ρ2 C3 F3 v3 H3 (s1.trans (s2.trans f3.ff)) (R2.step f3 c3) r3 p3⟩
  · exact q1.elim
/-- what is known of a class that is made -/
structure MkG (X : Cx) (cls : String) (Γc : List D → CM → (D → CM → Prop) → Prop) (cad : Addr) : Prop where
  mgf : X.mg (Str.ofString cls) = some (.ref cad)
  kp : PySem.W.keepIn X.K (.ref cad) = true
  ns : PySem.W.nsIn X.K mainGlobals (Str.ofString cls) = some (some (.ref cad))
  run : ∀ ds C P, Γc ds C P → ∃ (j : Nat) (fi : Addr) (fd : FuncData) (ps : List Str) (gI : List D → CM → (D → CM → Prop) → Prop), Mk X.K cad fi ∧ Room (j + 1) X.A ∧ Binds X.K fd ps [] ∧ FnG X.prog X.w X.K X.mg X.base CX0 j fi fd ps (spOf X.K gI) ∧
    ∀ a, C a = none → gI (.ref a :: ds) (setC C a (.ins cls [])) (fun d C2 => d = .non ∧ P (.ref a) C2)
theorem run_makeG {cls : String} {Γc : List D → CM → (D → CM → Prop) → Prop} {cad : Addr} {pins : List (Addr × Obj)} {σ : L2.St} {H : Hp} {s : Shared} {Q : VK} {us : List Value} {vs : List V} (M : MkG X cls Γc cad) (gd : X.A.guards = some [])
    {B : Base} {F : Hp} {ρ : Rho} {C : CM} {ds : List D} {P : D → CM → Prop} (I : Inv X pins σ H s) (rv : Vals vs us) (R : Rel X.K B F σ H ρ C) (rs : Reps X.K F vs ds) (q : Γc ds C P)
    (k : ∀ d C' F' v H', Same F F' → Rel X.K B F' σ H' ρ C' → Rep X.K F' v d → P d C' → Q v H') : wpAny (model X.prog X.w) X.A (call (.ref cad) us) (EP X pins σ Q) X.xe s := by
  obtain ⟨j, fi, fd, ps, gI, Mc, hr, hb, Fg, hgI⟩ := M.run ds C P q
  have nx : H (s.heap.objs.size + 1) = none := I.hok.fresh (Nat.le_succ _)
  have ndx : H s.heap.objs.size = none := I.hok.fresh (Nat.le_refl _)
  have I2 := Inv.made (C := cad) I
  let a := s.heap.objs.size + 1
  let dx := s.heap.objs.size
  have ne : dx ≠ a := Nat.ne_of_lt (Nat.lt_succ_self _)
  have ca := R.cell_none nx
  -- the relation, with the new instance
  have R1 : Rel X.K B F σ (upd (upd H dx (.own a)) a (.ins cad dx [])) ρ C := by
    have R0 := R.updFree (a := dx) (o := .own a) (same_none R.ce.fh ndx) (R.cell_none ndx) (R.base_none ndx) (R.notOwn_of ndx) (fun u hu => by rw [ndx] at hu; cases hu)
    have na : (upd H dx (.own a)) a = none := by rw [upd_ne ne.symm]; exact nx
    exact R0.updFree (a := a) (same_none R.ce.fh nx) ca (R.base_none nx) (R.notOwn_of nx) (fun u hu => by rw [na] at hu; cases hu)
  have R2 : Rel X.K B F σ (upd (upd H dx (.own a)) a (.ins cad dx [])) ρ (setC C a (.ins cls [])) :=
    R1.newCellO ⟨cad, dx, [], M.ns, upd_same, .nil⟩ (same_none R.ce.fh nx) (R.base_none nx) (R.notOwn_of nx)
  have sp : spOf X.K gI (.ref a :: vs) (upd (upd H dx (.own a)) a (.ins cad dx [])) (fun v H2 => v = .non ∧ Q (.ref a) H2) (fun _ _ _ => False) :=
    ⟨F, _, _, _, R2.ce, .cons (.ref a) rs, hgI a ca, fun d C' F' v H' c' f' r' ⟨e, p'⟩ => by
      subst e
      cases r'
      exact ⟨rfl, k (.ref a) C' F' _ H' f'.ff (R2.step f' c') (.ref a) p'⟩⟩
  have r2 : Vals (V.ref a :: vs) (Value.ref a :: us) := .cons rfl rv
  have hl : (Value.ref a :: us).length = ps.length := by rw [← r2.length]; exact Fg.len _ _ _ _ sp
  refine wpAny_call (make_map (f := fi) I.kIn Mc.makes Mc.init (beq_iff_eq.mp Mc.fn) (codeAny_mono (Fg.run _ X.stack _ _ ⟨Value.ref a :: us, []⟩ (Value.ref a :: us) (.ref a :: vs) _ _ (by first | exact gd | (simpa [Around.under] using gd)) (hr.make cad us []) (I2.env0.make cad us [])
    (by have := hb _ (Value.ref a :: us) I2.kIn (by rw [List.append_nil]; exact hl); rwa [List.append_nil] at this) r2 sp) fun z s' hq => ?_))
  rcases z with er | fl
  · exact False.elim hq
  · cases fl with
    | ret u =>
      obtain ⟨v, H', I3, rv3, ev, q3⟩ := I2.after hq
      subst ev
      exact ⟨rv3, ⟨V.ref a, H', I3, rfl, q3⟩⟩
    | next => exact False.elim hq
    | brk => exact False.elim hq
    | cont => exact False.elim hq
theorem pe_makeG {cls : String} {Γc : List D → CM → (D → CM → Prop) → Prop} {cad : Addr} {me : ML} (M : MkG X cls Γc cad) (gd : X.A.guards = some []) (hg : Gl X (Str.ofString cls)) (ha : PA X (e :: es) (rdA X.K me)) (hdb : ((Str.ofString cls : Str) == ("__debug__" : Str)) = false)
    (he : starEach (e :: es) X.env = (false, eval e X.env) :: starEach es X.env) (hpl : (backTo pos (starEach es X.env)).any (·.1) = false) :
    PE X (.Call (.Name (Str.ofString cls) p) (e :: es) [] pos) (rd X.K fun ρ C P => me ρ C fun ds ρ1 C1 => Γc ds C1 (fun d C2 => P d ρ1 C2)) := by
  constructor
  intro pins s σ H Q I ⟨B, F, ρ, C, P, R, m, k⟩
  let Z : List V → Hp → Prop := fun vs H2 => ∃ (ds : List D) (ρ1 : Rho) (C1 : CM) (F1 : Hp), Same F F1 ∧ Rel X.K B F1 σ H2 ρ1 C1 ∧ Reps X.K F1 vs ds ∧ Γc ds C1 (fun d C2 => P d ρ1 C2)
  exact wpAny_Call_Name_kw (ld_glob I hg M.mgf (PySem.W.callWith_K (h₀ := X.base) I.ok.mod.kin M.kp (thn (ha.run pos pins s σ H Z I ⟨B, F, ρ, C, _, R, m, fun ds ρ1 C1 F1 vs H2 s12 R1 rr q => ⟨ds, ρ1, C1, F1, s12, R1, rr, q⟩⟩)
    fun us s1 ⟨vs, H1, I1, r, ds, ρ1, C1, F1, s12, R1, rr, q⟩ => ⟨I1.kIn, run_makeG M gd I1 r R1 rr q fun d C' F' v H' s3 R3 r3 p3 => k d ρ1 C' F' v H' (s12.trans s3) R3 r3 p3⟩) he hpl) hdb)
theorem pe_makeG0 {cls : String} {Γc : List D → CM → (D → CM → Prop) → Prop} {cad : Addr} (M : MkG X cls Γc cad) (gd : X.A.guards = some []) (hg : Gl X (Str.ofString cls)) (hdb : ((Str.ofString cls : Str) == ("__debug__" : Str)) = false) :
    PE X (.Call (.Name (Str.ofString cls) p) [] [] pos) (rd X.K fun ρ C P => Γc [] C (fun d C2 => P d ρ C2)) := by
  constructor
  intro pins s σ H Q I ⟨B, F, ρ, C, P, R, m, k⟩
  exact wpAny_Call_Name_kw (ld_glob I hg M.mgf (PySem.W.callWith_K0 I.kIn M.kp (run_makeG (us := []) (vs := []) M gd I .nil R .nil m fun d C' F' v H' s3 R3 r3 p3 => k d ρ C' F' v H' s3 R3 r3 p3)) hdb)
end
end M61

set_option Elab.async false
set_option linter.all false
set_option autoImplicit false
set_option maxRecDepth 100000
/-! M4u: every second one of a list, from the second on. -/
namespace M61
open PySem PySem.Spec PyProof.Rows L2
def oddV {α : Type} : List α → List α
  | _ :: y :: r => y :: oddV r
  | _ => []
theorem bounds_odd (n : Nat) : sliceBounds (some 1) none (some 2) n = (min 1 (n : Int), (n : Int), 2) := by
  have e : sliceBounds (some 1) none (some 2) n = (max 0 (min 1 (n : Int)), (n : Int), 2) := by simp [sliceBounds]
  rw [e]
  congr 1
  omega
theorem range_odd (n : Nat) : sliceRange (min 1 (n : Int)) (n : Int) 2 = (List.range (n / 2)).map fun k => 2 * k + 1 := by
  unfold sliceRange
  have h2 : (2 : Int) > 0 := by decide
  by_cases h : 2 ≤ n
  · have e1 : min 1 (n : Int) = 1 := by omega
    have e2 : (1 : Int) < n := by omega
    have e3 : ((n : Int) - 1 + 2 - 1) / 2 = ((n / 2 : Nat) : Int) := by omega
    rw [e1]
    show (List.range (if (2 : Int) > 0 then (if (1 : Int) < n then ((n : Int) - 1 + 2 - 1) / 2 else 0) else _).toNat).map _ = _
    rw [if_pos h2, if_pos e2, e3, Int.toNat_natCast]
    refine List.map_congr_left fun k _ => ?_
    show (1 + 2 * (k : Int)).toNat = 2 * k + 1
    omega
  · have e1 : ¬ (min 1 (n : Int) < n) := by omega
    have e2 : n / 2 = 0 := by omega
    rw [e2]
    simp [e1]
theorem pick_list {α : Type} : ∀ l : List α, ((List.range (l.length / 2)).map fun k => 2 * k + 1).filterMap (fun k => l[k]?) = oddV l
  | [] => by simp [oddV]
  | [x] => by simp [oddV]
  | x :: y :: r => by
    have e : (x :: y :: r).length / 2 = r.length / 2 + 1 := by
      show (r.length + 1 + 1) / 2 = _
      omega
    rw [e, List.range_succ_eq_map, List.map_cons, List.filterMap_cons]
    show y :: _ = y :: oddV r
    rw [← pick_list r, List.map_map, List.filterMap_map, List.filterMap_map]
    congr 1
theorem pick_odd (items : Array Value) : slicePick items (some 1) none (some 2) = (oddV items.toList).toArray := by
  unfold slicePick
  rw [bounds_odd]
  show ((sliceRange (min 1 (items.size : Int)) (items.size : Int) 2).filterMap (items[·]?)).toArray = _
  rw [range_odd, ← pick_list items.toList]
  congr 1
  rw [Array.length_toList]
  refine congrFun (congrArg List.filterMap ?_) _
  funext k
  rw [Array.getElem?_toList]
theorem oddV_vals : ∀ {xs : List V} {us : List Value}, Vals xs us → Vals (oddV xs) (oddV us)
  | _, _, .nil => .nil
  | _, _, .cons r .nil => .nil
  | _, _, .cons r (.cons q t) => .cons q (oddV_vals t)
theorem Reps.odd {K : PySem.W.Frag} {F : Hp} : ∀ {vs : List V} {ds : List D}, Reps K F vs ds → Reps K F (oddV vs) (oddD ds)
  | _, _, .nil => .nil
  | _, _, .cons r .nil => .nil
  | _, _, .cons r (.cons q t) => .cons q (Reps.odd t)
theorem oddV_le {α : Type} : ∀ l : List α, (oddV l).length ≤ l.length
  | [] => Nat.le_refl _
  | [_] => Nat.zero_le _
  | _ :: y :: r => by
    have := oddV_le r
    show (oddV r).length + 1 ≤ r.length + 1 + 1
    omega
def tOdd (K : PySem.W.Frag) (te : TE) : TE := fun σ H Q => te σ H fun x H1 => ∃ a xs, x = .ref a ∧ SqL K H1 a xs ∧ ∀ p, H1 p = none → Q (.ref p) (upd H1 p (.lst (oddV xs)))
section
variable {X : Cx}
theorem pos_part {i : Int} {k : Nat} {p1 : Pos} : PO X (some (.Constant (.int i) k p1)) (tPart (tC (.int i))) := po_some pe_int
theorem pe_odd {e : Expr} {te : TE} {k k' : Nat} {p1 q1 p3 pos : Pos} (he : PE X e te) : PE X (.Subscript e (.Slice (some (.Constant (.int 1) k q1)) none (some (.Constant (.int 2) k' p1)) p3) pos) (tOdd X.K te) := ⟨fun pins s σ H Q I h => by
  refine Subscript_ (thn (he.run pins s σ H _ I h) fun v s1 ⟨x, H1, I1, r1, a, xs, ex, hx, q⟩ => ?_)
  subst ex
  cases r1
  refine wpAny_Slice (thn (pos_part.run pins s1 σ H1 (fun o G => o = some 1 ∧ G = H1) I1 ⟨1, rfl, rfl, rfl⟩) fun vl s2 ⟨_, _, I2, pl, el, eh⟩ => ?_)
  cases el; cases eh
  refine thn (po_none.run pins s2 σ H1 (fun o G => o = none ∧ G = H1) I2 ⟨rfl, rfl⟩) fun vu s3 ⟨_, _, I3, pu, el, eh⟩ => ?_
  cases el; cases eh
  refine thn (pos_part.run pins s3 σ H1 (fun o G => o = some 2 ∧ G = H1) I3 ⟨2, rfl, rfl, rfl⟩) fun vs s4 ⟨_, _, I4, ps, el, eh⟩ => ?_
  cases el; cases eh
  have I5 : Inv X pins σ H1 { s4 with heap := s4.heap.push { cls := .type "slice", data := .fields #[vl, vu, vs] } } := I4.kept (t' := s4.toks) fun b ob q => Heap.get?_push_of_some _ q
  obtain ⟨its, r, ht, hz⟩ := I5.list hx
  have hlen := r.length
  refine tail_any (ops := [.ref a, .ref s4.heap.objs.size]) ht.isList.typeIs (PySem.slot_list_getitem.lookup) ?_ (by with_unfolding_all rfl)
  refine wpAny_getItem_list_slice ht.isList (Heap.IsSliceOf.new _ vl vu vs) pl pu ps (by decide) ?_ (by rw [List.size_toArray]; omega)
  rw [pick_odd]
  have hr : Vals (oddV xs) (oddV its) := oddV_vals r
  have hle := oddV_le xs
  have I6 := I5.laid (a := (s4.heap.push { cls := .type "slice", data := .fields #[vl, vu, vs] }).objs.size) (t' := s4.toks) (o := .lst (oddV xs)) (h' := _) (fun b ob q => Heap.get?_push_of_some (Obj.mk (.type "list") none (.seq (oddV its.toArray.toList).toArray 0) #[]) q) (Nat.le_refl _) ⟨by omega, _, 0, by
    simpa using hr, Heap.get?_push_size _ rfl⟩
  exact ⟨.ref _, _, I6, rfl, q _ (I5.hok.fresh (Nat.le_refl _))⟩⟩
theorem l_odd {ma : ME} {e : Expr} (h : PE X e (tOdd X.K (rd X.K ma))) : PE X e (rdL X.K fun ρ C P => ma ρ C fun x ρ1 C1 => match x with
    | .lst xs => P (oddD xs) ρ1 C1
    | _ => False) := pe_weak h fun σ H Q ⟨B, F, ρ, C, P, R, m, k⟩ =>
  ⟨B, F, ρ, C, _, R, m, fun x ρ1 C1 F1 v1 H1 s1 R1 r1 q => by
    try dsimp only at q
    split at q
    · obtain ⟨a, vs, rfl, hl, ra⟩ := r1.lst_inv
      refine ⟨a, vs, rfl, .of (R1.ce.fh _ _ hl), fun p hp => ?_⟩
      obtain ⟨R2, f1, f2, f3, f4⟩ := rel_fresh (vs := oddV vs) R1 hp
      exact k _ ρ1 C1 F1 p _ _ s1 R2 upd_same ra.odd f1 f2 f3 f4 q
    · exact q.elim⟩
end
end M61

set_option Elab.async false
set_option linter.all false
set_option autoImplicit false
set_option maxRecDepth 100000
/-! M5a: whether the text says what the inner form says. -/
namespace M61
open PySem PySem.Spec PyProof.Rows L2

structure Cfg where
  N : List Str
  sc : Scope
  /-- the block that runs, where it isn't the def's own -/
  blk : Option Scope
  sigs : List (String × Nat)
  cons : List (String × Int)
  txts : List (String × String)
  dcts : List (String × List (String × Int))
  /-- the classes' fields, their methods with the number of parameters, those that are made with the number of arguments -/
  flds : List (String × String)
  mths : List (String × String × Nat)
  clss : List (String × Nat)
  /-- the def made in the def that runs: the maker's name, the scope -/
  nst : Option (String × Scope)
def visB (sc : Scope) (x : Str) : Bool := match sc.names.lookup x with
  | some .local => true | some .cell => true | some .free => true | _ => false
def locB (c : Cfg) (x : Str) : Bool := match c.sc.names.lookup x with
  | some .local => true
  | some .cell => (match c.blk with | none => true | some s => s.names.lookup x == some .cell)
  | _ => false
def glB (sc : Scope) (x : Str) : Bool := decide (sc.names.lookup x = some .globalImplicit)
def plainNm (x : Str) : Bool := !(x == ("__debug__" : Str)) && !(x == ("__classdict__" : Str)) && !(x == ("__name__" : Str))
def isNm (s : String) (x : Str) : Bool := decide (x = Str.ofString s)
def notStar : Expr → Bool
  | .Starred .. => false
  | _ => true
def notSlice : Expr → Bool
  | .Slice .. => false
  | _ => true
def attrOk : Expr → Bool
  | .Call (.Name ..) [] [] _ => false
  | _ => true
def plainTest : Expr → Bool
  | .UnaryOp .Not _ _ => false
  | .BoolOp .. => false
  | .IfExp .. => false
  | .Compare .. => false
  | _ => true
def chkVar (c : Cfg) (i : Nat) : Expr → Bool
  | .Name x _ => decide (c.N[i]? = some x) && visB c.sc x && plainNm x
  | _ => false
/-- a built-in's name -/
def chkG (c : Cfg) (s : String) : Expr → Bool
  | .Name x _ => isNm s x && glB c.sc x && plainNm x
  | _ => false
def bltName : Blt → String
  | .len => "len" | .tuple => "tuple" | .sum => "sum" | .min => "min" | .max => "max" | .min2 => "min" | .max2 => "max" | .abs => "abs" | .int => "int" | .all => "all" | .any => "any" | .repr => "repr" | .min3 => "min" | .str => "str" | .mind => "min" | .maxd => "max" | .min2d => "min"
/-- the built-ins that are spoken of -/
def usedB : List String := ["len", "tuple", "sum", "min", "max", "abs", "int", "all", "any", "isinstance", "bool", "list", "str", "dict", "range", "enumerate", "zip", "reversed", "sorted", "repr"]
mutual
def chkTg (c : Cfg) : Tg → Expr → Bool
  | .nm i, .Name x _ => decide (c.N[i]? = some x) && locB c x
  | .tp ts, .Tuple es _ _ => chkTgs c ts es
  | _, _ => false
def chkTgs (c : Cfg) : Tgs → List Expr → Bool
  | .nil, [] => true
  | .cons t ts, e :: es => chkTg c t e && chkTgs c ts es
  | _, _ => false
end
def isTupE : Expr → Bool
  | .Tuple .. => true
  | _ => false
def chkKV : List (String × String) → List (Option Expr) → List Expr → Bool
  | [], [], [] => true
  | (k, v) :: r, some (.Constant (.str x) _ _) :: ks, .Constant (.str y) _ _ :: vs => isNm k x && isNm v y && chkKV r ks vs
  | _, _, _ => false
def chkKs : List String → List (Option Expr) → Bool
  | [], [] => true
  | k :: r, some (.Constant (.str x) _ _) :: ks => isNm k x && chkKs r ks
  | _, _ => false
/-- a written key -/
def keyB : Int ⊕ String → Const → Bool
  | .inl i, .int j => decide (i = j)
  | .inr s, .str x => isNm s x
  | _, _ => false
/-! shapes -/
def shCallN : Expr → Option (Str × Pos × List Expr × Pos)
  | .Call (.Name x q) xs [] p => some (x, q, xs, p)
  | _ => none
theorem shCallN_inv {e : Expr} {x : Str} {q : Pos} {xs : List Expr} {p : Pos} (h : shCallN e = some (x, q, xs, p)) : e = .Call (.Name x q) xs [] p := by
  unfold shCallN at h
  split at h
  · cases h; rfl
  · cases h
def shCallA : Expr → Option (Expr × Str × Pos × List Expr × Pos)
  | .Call (.Attribute v m ap) xs [] p => some (v, m, ap, xs, p)
  | _ => none
theorem shCallA_inv {e v : Expr} {m : Str} {ap : Pos} {xs : List Expr} {p : Pos} (h : shCallA e = some (v, m, ap, xs, p)) : e = .Call (.Attribute v m ap) xs [] p := by
  unfold shCallA at h
  split at h
  · cases h; rfl
  · cases h
def shAttr : Expr → Option (Expr × Str × Pos)
  | .Attribute v m ap => some (v, m, ap)
  | _ => none
theorem shAttr_inv {e v : Expr} {m : Str} {ap : Pos} (h : shAttr e = some (v, m, ap)) : e = .Attribute v m ap := by
  unfold shAttr at h
  split at h
  · cases h; rfl
  · cases h
def shDict0 : Expr → Option Pos
  | .Dict [] [] p => some p
  | _ => none
theorem shDict0_inv {e : Expr} {p : Pos} (h : shDict0 e = some p) : e = .Dict [] [] p := by
  unfold shDict0 at h
  split at h
  · cases h; rfl
  · cases h
structure TupX where
  es : List Expr
  k : Nat
  q : Pos
def shTup : Expr → Option (List Expr × Expr)
  | .Tuple es k q => some (es, .Tuple es k q)
  | _ => none
def isTupOf (es : List Expr) (e : Expr) : Prop := ∃ k q, e = .Tuple es k q
theorem shTup_inv {e t : Expr} {es : List Expr} (h : shTup e = some (es, t)) : ∃ k q, e = .Tuple es k q := by
  unfold shTup at h
  split at h
  · cases h; exact ⟨_, _, rfl⟩
  · cases h
def shSub : Expr → Option (Expr × Expr × Pos)
  | .Subscript v s p => some (v, s, p)
  | _ => none
theorem shSub_inv {e v s : Expr} {p : Pos} (h : shSub e = some (v, s, p)) : e = .Subscript v s p := by
  unfold shSub at h
  split at h
  · cases h; rfl
  · cases h
def shCmp : Expr → Option (Expr × CmpOp × Expr × Pos)
  | .Compare l [op] [r] p => some (l, op, r, p)
  | _ => none
theorem shCmp_inv {e l r : Expr} {op : CmpOp} {p : Pos} (h : shCmp e = some (l, op, r, p)) : e = .Compare l [op] [r] p := by
  unfold shCmp at h
  split at h
  · cases h; rfl
  · cases h
def shOdd : Expr → Option Expr
  | .Subscript e (.Slice (some (.Constant (.int 1) _ _)) none (some (.Constant (.int 2) _ _)) _) _ => some e
  | _ => none
theorem shOdd_inv {e v : Expr} (h : shOdd e = some v) : ∃ k q1 k' p1 p3 pos, e = .Subscript v (.Slice (some (.Constant (.int 1) k q1)) none (some (.Constant (.int 2) k' p1)) p3) pos := by
  unfold shOdd at h
  split at h
  · cases h; exact ⟨_, _, _, _, _, _, rfl⟩
  · cases h
def shAsgA : Stmt → Option (Expr × Str × Pos × Expr × Pos)
  | .Assign [.Attribute o f p] e q => some (o, f, p, e, q)
  | _ => none
theorem shAsgA_inv {st : Stmt} {o e : Expr} {f : Str} {p q : Pos} (h : shAsgA st = some (o, f, p, e, q)) : st = .Assign [.Attribute o f p] e q := by
  unfold shAsgA at h
  split at h
  · cases h; rfl
  · cases h
def shAsgS : Stmt → Option (Expr × Expr × Pos × Expr × Pos)
  | .Assign [.Subscript o s p] e q => some (o, s, p, e, q)
  | _ => none
theorem shAsgS_inv {st : Stmt} {o s e : Expr} {p q : Pos} (h : shAsgS st = some (o, s, p, e, q)) : st = .Assign [.Subscript o s p] e q := by
  unfold shAsgS at h
  split at h
  · cases h; rfl
  · cases h
/-- how the running def's names lie to those that its own def holds -/
def nstB (c : Cfg) (sc : Scope) (js : List Nat) : Bool :=
  (sc.names.all fun y => !decide (y.2 = .free) || decide (c.sc.names.lookup y.1 = some .cell) || decide (c.sc.names.lookup y.1 = some .free)) && (freeOf sc).all (fun y => decide ((y, NameKind.free) ∈ sc.names)) && decide (js.map (fun j => c.N[j]?) = (freeOf sc).map some)
mutual
def chkE (c : Cfg) : E → Expr → Bool
  | .var i, e => chkVar c i e
  | .mv i, e => chkVar c i e
  | .non, .Constant .none _ _ => true
  | .bl b, .Constant (.bool b') _ _ => b == b'
  | .int i, .Constant (.int i') _ _ => decide (i = i')
  | .str s, .Constant (.str x) _ _ => isNm s x
  | .con x i, .Name y _ => isNm x y && glB c.sc y && plainNm y && c.cons.contains (x, i)
  | .cns x s, .Name y _ => isNm x y && glB c.sc y && plainNm y && c.txts.contains (x, s)
  | .bin o a b, .BinOp l op r _ => decide (op = popOf o) && chkE c a l && chkE c b r
  | .neg a, .UnaryOp .USub x _ => chkE c a x
  | .cmp o a b, .Compare l [op] [r] _ => decide (op = copOf o) && chkE c a l && chkE c b r && !behindInMarks op r
  | .chn o o' a b d, .Compare l [op, op'] [m, r] _ => decide (op = copOf o) && decide (op' = copOf o') && chkE c a l && chkE c b m && chkE c d r && !lastMarks [op, op'] [m, r]
  | .chn3 o o' o'' a b d f, .Compare l [op, op', op''] [m, r, q] _ => decide (op = copOf o) && decide (op' = copOf o') && decide (op'' = copOf o'') && chkE c a l && chkE c b m && chkE c d r && chkE c f q && !lastMarks [op, op', op''] [m, r, q]
  | .dlk kvs a, .Subscript (.Dict ks vs _) s _ => chkKV kvs ks vs && chkE c a s && notSlice s && decide (kvs ≠ []) && decide (kvs.length ≤ 15)
  | .celd ks es, .Dict keys vals _ => chkKs ks keys && chkEs c es vals && decide (ks ≠ []) && decide (ks.length ≤ 15) && decide (keys.length = vals.length)
  | .edic, .Dict [] [] _ => true
  | .ndic k a, .Dict [some (.Constant w _ _)] [v] _ => keyB k w && chkE c a v
  | .dix a k, .Subscript v (.Constant (.str x) _ _) _ => chkE c a v && isNm k x
  | .and a b, .BoolOp .And [x, y] _ => chkE c a x && chkE c b y
  | .and a b, .BoolOp .And (x :: y :: z :: r) p => chkE c a x && chkE c b (.BoolOp .And (y :: z :: r) p)
  | .or a b, .BoolOp .Or [x, y] _ => chkE c a x && chkE c b y
  | .or a b, .BoolOp .Or (x :: y :: z :: r) p => chkE c a x && chkE c b (.BoolOp .Or (y :: z :: r) p)
  | .not a, .UnaryOp .Not x _ => chkE c a x
  | .ife t a b, .IfExp p x y _ => chkT c t p && chkE c a x && chkE c b y
  | .tup es, .Tuple xs _ _ => chkEs c es xs
  | .frz l, e => chkL c l e
  | .cel l, e => chkL c l e
  | .ix a b, .Subscript v s _ => chkE c a v && chkE c b s && notSlice s
  | .sl a lo hi, .Subscript v (.Slice l h none _) _ => chkE c a v && chkO c lo l && chkO c hi h
  | .rev a, .Subscript v (.Slice none none (some (.UnaryOp .USub (.Constant (.int k) _ _) _)) _) _ => chkE c a v && decide (k = 1)
  | .call f es, .Call (.Name x _) xs [] _ => isNm f x && glB c.sc x && plainNm x && c.sigs.contains (f, xs.length) && chkEs c es xs
  | .blt f es, .Call n xs [] _ => chkG c (bltName f) n && chkEs c es xs && decide (xs ≠ [])
  | .trg1 a, .Call n [.Call m [x] [] _] [] _ => chkG c "tuple" n && chkG c "range" m && chkE c a x && notStar x
  | .isi a t, .Call n [x, y] [] _ => chkG c "isinstance" n && chkE c a x && notStar x && chkG c (tyName t) y
  | .oix i b, .Subscript v s _ => chkVar c i v && chkE c b s && notSlice s
  | .olen i, .Call n [v] [] _ => chkG c "len" n && chkVar c i v
  | .one i, .Compare v [.NotEq] [.List [] _] _ => chkVar c i v
  | .oem i, .Compare v [.Eq] [.List [] _] _ => chkVar c i v
  | .lne a, .Compare v [.NotEq] [.List [] _] _ => chkE c a v
  | .leq a, .Compare v [.Eq] [.List [] _] _ => chkE c a v
  | .cne a, .Compare v [.NotEq] [.List [] _] _ => chkE c a v
  | .ceq a, .Compare v [.Eq] [.List [] _] _ => chkE c a v
  | .opop i, .Call (.Attribute v m ap) [] [] cp => chkVar c i v && isNm "pop" m && (ap.endLine == cp.line)
  | .cpop o, .Call (.Attribute v m ap) [] [] cp => chkE c o v && attrOk v && isNm "pop" m && (ap.endLine == cp.line)
  | .cpopA o k, .Call (.Attribute v m ap) [e] [] cp => chkE c o v && attrOk v && isNm "pop" m && (ap.endLine == cp.line) && chkE c k e && notStar e
  | .indx a b, .Call (.Attribute v m ap) [e] [] cp => chkE c a v && attrOk v && isNm "index" m && (ap.endLine == cp.line) && chkE c b e && notStar e
  | .mxo k a b, .Call n [x] [⟨some nm, y, _⟩] _ => chkG c (if k = true then "max" else "min") n && chkE c a x && notStar x && isNm "default" nm && chkE c b y
  | .gget x kvs a, .Call (.Attribute (.Name y _) m ap) [e] [] cp => isNm x y && glB c.sc y && plainNm y && c.dcts.contains (x, kvs) && isNm "get" m && (ap.endLine == cp.line) && chkE c a e && notStar e
  | .upr a, .Call (.Attribute v m ap) [] [] cp => chkE c a v && attrOk v && isNm "upper" m && (ap.endLine == cp.line)
  | .orv a b, .BoolOp .Or [x, y] _ => chkE c a x && chkE c b y
  | .orv a b, .BoolOp .Or (x :: y :: z :: r) p => chkE c a x && chkE c b (.BoolOp .Or (y :: z :: r) p)
  | .callv i es, e => (match shCallN e with
    | some (x, q, xs, p) => chkVar c i (.Name x q) && chkEs c es xs && decide (xs ≠ [])
    | none => false)
  | .callc g i mk js es, e => (match shCallN e with
    | some (x, q, .Name y p2 :: xs, p) => isNm g x && glB c.sc x && plainNm x && c.sigs.contains (g, xs.length + 1) && chkVar c i (.Name y p2) && chkEs c es xs &&
      (match c.nst with | some (mk', sc) => decide (mk' = mk) && nstB c sc js | none => false)
    | _ => false)
  | .fld cls f a, e => (match shAttr e with
    | some (v, m, _) => isNm f m && attrOk v && c.flds.contains (cls, f) && chkE c a v
    | none => false)
  | .meth cls m a es, e => (match shCallA e with
    | some (v, m', ap, xs, p) => isNm m m' && attrOk v && (ap.endLine == p.line) && decide (xs.length < 25) && c.mths.contains (cls, m, xs.length + 1) && chkE c a v && chkEs c es xs
    | none => false)
  | .make cls es, e => (match shCallN e with
    | some (x, _, xs, _) => isNm cls x && glB c.sc x && plainNm x && c.clss.contains (cls, xs.length) && chkEs c es xs
    | none => false)
  | .dnt, e => (match shDict0 e with
    | some _ => true
    | none => false)
  | .dgt d ks, e => (match shSub e with
    | some (v, s, _) => (match shTup s with
      | some (xs, _) => chkE c d v && chkEs c ks xs
      | none => false)
    | none => false)
  | _, _ => false
def chkT (c : Cfg) : T → Expr → Bool
  | .and a b, .BoolOp .And [x, y] _ => chkT c a x && chkT c b y
  | .and a b, .BoolOp .And (x :: y :: z :: r) p => chkT c a x && chkT c b (.BoolOp .And (y :: z :: r) p)
  | .or a b, .BoolOp .Or [x, y] _ => chkT c a x && chkT c b y
  | .or a b, .BoolOp .Or (x :: y :: z :: r) p => chkT c a x && chkT c b (.BoolOp .Or (y :: z :: r) p)
  | .not a, .UnaryOp .Not x _ => chkT c a x
  | .cmp o a b, .Compare l [op] [r] _ => decide (op = copOf o) && chkE c a l && chkE c b r && !behindInMarks op r
  | .chn o o' a b d, .Compare l [op, op'] [m, r] _ => decide (op = copOf o) && decide (op' = copOf o') && chkE c a l && chkE c b m && chkE c d r && !lastMarks [op, op'] [m, r]
  | .chn3 o o' o'' a b d f, .Compare l [op, op', op''] [m, r, q] _ => decide (op = copOf o) && decide (op' = copOf o') && decide (op'' = copOf o'') && chkE c a l && chkE c b m && chkE c d r && chkE c f q && !lastMarks [op, op', op''] [m, r, q]
  | .one i, .Compare v [.NotEq] [.List [] _] _ => chkVar c i v
  | .oem i, .Compare v [.Eq] [.List [] _] _ => chkVar c i v
  | .tne a, .Compare v [.NotEq] [.Tuple [] _ _] _ => chkE c a v
  | .teq a, .Compare v [.Eq] [.Tuple [] _ _] _ => chkE c a v
  | .lne a, .Compare v [.NotEq] [.List [] _] _ => chkE c a v
  | .leq a, .Compare v [.Eq] [.List [] _] _ => chkE c a v
  | .cne a, .Compare v [.NotEq] [.List [] _] _ => chkE c a v
  | .ceq a, .Compare v [.Eq] [.List [] _] _ => chkE c a v
  | .val a, e => chkE c a e && plainTest e
  | .din ks d, e => (match shCmp e with
    | some (l, op, r, _) => (match shTup l with
      | some (xs, _) => decide (op = .In) && chkEs c ks xs && chkE c d r && !behindInMarks op r
      | none => false)
    | none => false)
  | .dnin ks d, e => (match shCmp e with
    | some (l, op, r, _) => (match shTup l with
      | some (xs, _) => decide (op = .NotIn) && chkEs c ks xs && chkE c d r && !behindInMarks op r
      | none => false)
    | none => false)
  | _, _ => false
def chkEs (c : Cfg) : Es → List Expr → Bool
  | .nil, [] => true
  | .cons a as, e :: es => chkE c a e && notStar e && chkEs c as es
  | _, _ => false
def chkO (c : Cfg) : O → Option Expr → Bool
  | .no, none => true
  | .yes a, some e => chkE c a e
  | _, _ => false
def chkC (c : Cfg) : Oc → List Expr → Bool
  | .no, [] => true
  | .yes a, [e] => chkT c a e
  | _, _ => false
def chkL (c : Cfg) : L → Expr → Bool
  | .lit es, .List xs _ => chkEs c es xs
  | .comp own elt tg it t, .ListComp el [⟨ta, ie, ifs, 0⟩] scope _ =>
    let nm := own.filterMap fun i => c.N[i]?.map fun x => (x, i)
    let c' : Cfg := { c with sc := relS scope c.sc, blk := some scope, nst := none }
    chkI c it ta ie && blkC c.N c.sc scope nm && decide (nm.map (·.2) = own) && (tgSlots tg).all (fun i => own.contains i) && chkTg c' tg ta && chkC c' t ifs && chkE c' elt el && notSet ie
  | .compc own elt tg e t, .ListComp el [⟨ta, ie, ifs, 0⟩] scope _ =>
    let nm := own.filterMap fun i => c.N[i]?.map fun x => (x, i)
    let c' : Cfg := { c with sc := relS scope c.sc, blk := some scope, nst := none }
    chkE c e ie && blkC c.N c.sc scope nm && decide (nm.map (·.2) = own) && (tgSlots tg).all (fun i => own.contains i) && chkTg c' tg ta && chkC c' t ifs && chkE c' elt el && notSet ie
  | .list e, .Call n [x] [] _ => chkG c "list" n && chkE c e x && notStar x
  | .srt e, .Call n [x] [] _ => chkG c "sorted" n && chkE c e x && notStar x
  | .srr e, .Call n [x] [⟨some nm, .Constant (.bool b) _ _, _⟩] _ => chkG c "sorted" n && chkE c e x && notStar x && isNm "reverse" nm && b
  | .lrg1 a, .Call n [.Call m [x] [] _] [] _ => chkG c "list" n && chkG c "range" m && chkE c a x && notStar x
  | .lrg2 a b, .Call n [.Call m [x, y] [] _] [] _ => chkG c "list" n && chkG c "range" m && chkE c a x && notStar x && chkE c b y && notStar y
  | .lrv a, .Subscript v (.Slice none none (some (.UnaryOp .USub (.Constant (.int k) _ _) _)) _) _ => chkE c a v && decide (k = 1)
  | .ls2 a, .Subscript v (.Slice (some (.UnaryOp .USub (.Constant (.int k') _ _) _)) none (some (.UnaryOp .USub (.Constant (.int k) _ _) _)) _) _ => chkE c a v && decide (k' = 2) && decide (k = 1)
  | .rep a b, .BinOp l .Mult r _ => chkE c a l && chkE c b r
  | .cat a b, .BinOp l .Add r _ => chkE c a l && chkE c b r
  | .cato a i, .BinOp l .Add r _ => chkE c a l && chkVar c i r
  | .rvd a, .Call n [.Call m [x] [] _] [] _ => chkG c "list" n && chkG c "reversed" m && chkE c a x && notStar x
  | .odd a, e => (match shOdd e with
    | some v => chkE c a v
    | none => false)
  | _, _ => false
def chkI (c : Cfg) : I → Expr → Expr → Bool
  | .seq a, _, e => chkE c a e
  | .sgn a, _, e => chkE c a e
  | .rng1 a, _, .Call n [x] [] _ => chkG c "range" n && chkE c a x && notStar x
  | .rng2 a b, _, .Call n [x, y] [] _ => chkG c "range" n && chkE c a x && notStar x && chkE c b y && notStar y
  | .rng3 a b d, _, .Call n [x, y, z] [] _ => chkG c "range" n && chkE c a x && notStar x && chkE c b y && notStar y && chkE c d z && notStar z
  | .enum a, .Tuple .., .Call n [x] [] _ => chkG c "enumerate" n && chkE c a x && notStar x
  | .zip a b, .Tuple .., .Call n [x, y] [] _ => chkG c "zip" n && chkE c a x && notStar x && chkE c b y && notStar y
  | .zip3 a b d, .Tuple .., .Call n [x, y, z] [] _ => chkG c "zip" n && chkE c a x && notStar x && chkE c b y && notStar y && chkE c d z && notStar z
  | .rvs a, _, .Call n [x] [] _ => chkG c "reversed" n && chkE c a x && notStar x
  | .rvr a b, _, .Call n [.Call m [x, y] [] _] [] _ => chkG c "reversed" n && chkG c "range" m && chkE c a x && notStar x && chkE c b y && notStar y
  | .rvr1 a, _, .Call n [.Call m [x] [] _] [] _ => chkG c "reversed" n && chkG c "range" m && chkE c a x && notStar x
  | _, _, _ => false
def notSet : Expr → Bool
  | .Set .. => false
  | _ => true
end
/-- no comprehension that is stored at once -/
def notComp : Expr → Bool
  | .ListComp .. => false
  | .SetComp .. => false
  | .DictComp .. => false
  | _ => true
/-- a comprehension that is stored at once: its name a local, on the same line -/
def swB (c : Cfg) (x : Str) (px : Pos) : Expr → Bool
  | .ListComp _ _ scope p => decide (c.sc.names.lookup x = some .local) && (px.line == p.line) && !(scope.names.any fun (n, k) => n == x && (k == .local || k == .cell))
  | _ => false
/-- .. or it isn't -/
def noSw (c : Cfg) (x : Str) (px : Pos) : Expr → Bool
  | .ListComp _ _ scope p => decide (c.sc.names.lookup x = some .cell) || !(px.line == p.line)
  | e => notComp e
def locL (c : Cfg) (x : Str) : Bool := decide (c.sc.names.lookup x = some .local)
/-- a display whose parts are stored one by one -/
def parV (vs : List Expr) : Bool := !(vs.all (foldedForSure 8)) && !(vs.all (constantsAlone 8))
def unpOk : Expr → Expr → Bool
  | .Tuple ts _ _, .Tuple vs _ _ => !(ts.length == 2 || ts.length == 3) || (vs.all (foldedForSure 8) && vs.all notStar)
  | .Tuple .., .ListComp .. => true
  | .Tuple .., e => notComp e
  | _, _ => false
/-- a target's name that is a cell -/
def cellNm (c : Cfg) : Expr → Bool
  | .Name x _ => decide (c.sc.names.lookup x = some .cell)
  | _ => false
/-- .. made a tuple, where a target's name is a cell -/
def unpCell (c : Cfg) : Expr → Expr → Bool
  | .Tuple ts _ _, .Tuple _ _ _ => ts.any (cellNm c)
  | _, _ => false
mutual
def chkS (c : Cfg) : S → Stmt → Bool
  | .set i a, .Assign [.Name x px] e _ => decide (c.N[i]? = some x) && locB c x && chkE c a e && notComp e
  | .setF i l, .Assign [.Name x px] e _ => decide (c.N[i]? = some x) && locB c x && chkL c l e && (swB c x px e || noSw c x px e)
  | .own i l, .Assign [.Name x px] e _ => decide (c.N[i]? = some x) && locB c x && chkL c l e && (swB c x px e || noSw c x px e)
  | .unp tg a, .Assign [t] e _ => chkTg c tg t && chkE c a e && (unpOk t e || unpCell c t e)
  | .par2 i j es, .Assign [.Tuple [.Name x px, .Name y py] _ _] (.Tuple [a, b] _ _) _ => decide (c.N[i]? = some x) && decide (c.N[j]? = some y) && decide (i ≠ j) && locL c x && locL c y && (py.line == px.line) && decide (([x, y] : List Str).eraseDups.length = 2) && parV [a, b] && chkEs c es [a, b]
  | .par3 i j l es, .Assign [.Tuple [.Name x px, .Name y py, .Name z pz] _ _] (.Tuple [a, b, d] _ _) _ => decide (c.N[i]? = some x) && decide (c.N[j]? = some y) && decide (c.N[l]? = some z) && decide (i ≠ j) && decide (i ≠ l) && decide (j ≠ l) && locL c x && locL c y && locL c z && (py.line == px.line) && (pz.line == px.line) && decide (([x, y, z] : List Str).eraseDups.length = 3) && parV [a, b, d] && chkEs c es [a, b, d]
  | .aug i o a, .AugAssign (.Name x px) op e _ => decide (c.N[i]? = some x) && locB c x && visB c.sc x && chkE c a e && ((decide (o = .add) && decide (op = .Add)) || (decide (o = .sub) && decide (op = .Sub)))
  | .app i a, .Expr (.Call (.Attribute v m ap) [e] [] cp) _ => chkVar c i v && isNm "append" m && (ap.endLine == cp.line) && chkE c a e && notStar e
  | .ext i a, .Expr (.Call (.Attribute v m ap) [e] [] cp) _ => chkVar c i v && isNm "extend" m && (ap.endLine == cp.line) && chkE c a e && notStar e
  | .oset i k a, .Assign [.Subscript v s _] e _ => chkVar c i v && chkE c k s && notSlice s && chkE c a e && notComp e
  | .dset o k a, .Assign [.Subscript v (.Constant (.str x) _ _) _] e _ => chkE c o v && isNm k x && chkE c a e && notComp e
  | .csub o k a, .Assign [.Subscript v s _] e _ => chkE c o v && chkE c k s && notSlice s && chkE c a e && notComp e
  | .capp o a, .Expr (.Call (.Attribute v m ap) [e] [] cp) _ => chkE c o v && attrOk v && isNm "append" m && (ap.endLine == cp.line) && chkE c a e && notStar e
  | .cins o k a, .Expr (.Call (.Attribute v m ap) [s, e] [] cp) _ => chkE c o v && attrOk v && isNm "insert" m && (ap.endLine == cp.line) && chkE c k s && notStar s && chkE c a e && notStar e
  | .exp a, .Expr e _ => chkE c a e && notComp e
  | .ife t a b, .If p x y _ => chkT c t p && chkSs c a x && chkSs c b y
  | .for tg it b, .For t e bd [] _ => chkTg c tg t && chkI c it t e && chkSs c b bd && notSet e
  | .forc tg a b, .For t e bd [] _ => chkTg c tg t && chkE c a e && chkSs c b bd && notSet e
  | .whl t b, .While p bd [] _ => chkT c t p && chkSs c b bd
  | .ret a, .Return (some e) _ => chkE c a e
  | .ret0, .Return none _ => true
  | .pass, .Pass _ => true
  | .brk, .Break _ => true
  | .cnt, .Continue _ => true
  | .nev, _ => true
  | .fset cls f o a, st => (match shAsgA st with
    | some (v, m, _, e, _) => isNm f m && c.flds.contains (cls, f) && chkE c o v && chkE c a e && notComp e
    | none => false)
  | .dpt d ks a, st => (match shAsgS st with
    | some (v, s, _, e, _) => (match shTup s with
      | some (xs, _) => chkE c d v && chkEs c ks xs && chkE c a e && notComp e
      | none => false)
    | none => false)
  | _, _ => false
def chkSs (c : Cfg) : Ss → List Stmt → Bool
  | .nil, [] => true
  | .cons s ss, st :: sts => chkS c s st && chkSs c ss sts
  | _, _ => false
end
end M61

set_option Elab.async false
set_option linter.all false
set_option autoImplicit false
set_option maxRecDepth 100000
/-! M5b: what the check gives. -/
namespace M61
open PySem PySem.Spec PyProof.Rows L2
structure Good (c : Cfg) (G : Ctx) (n : Nat) (X : Cx) : Prop where
  hN : X.N = c.N
  nd : c.N.Nodup
  sc : X.env.scope = c.sc
  kind : c.sc.kind = .function
  calm : X.calm = true
  fn : ∀ x, locB c x = true → X.fn x = true ∨ c.sc.names.lookup x = some .local
  xe : X.xe = fun _ _ => False
  room : Room n X.A
  gd : X.A.guards = some []
  blt : ∀ b ∈ usedB, X.mg (Str.ofString b) = none
  fns : ∀ f k, c.sigs.contains (f, k) = true → ∃ fa fd ps, X.mg (Str.ofString f) = some (.ref fa) ∧ PySem.W.keepIn X.K (.ref fa) = true ∧ Binds X.K fd ps [] ∧
    FnG X.prog X.w X.K X.mg X.base CX0 n fa fd ps (spOf X.K fun ds C P => G.Γ f ds C P G.ex)
  con : ∀ x i, c.cons.contains (x, i) = true → ∃ u, X.mg (Str.ofString x) = some u ∧ L2.RelV (.int i) u
  txt : ∀ x s, c.txts.contains (x, s) = true → ∃ u, X.mg (Str.ofString x) = some u ∧ L2.RelV (.str (Str.ofString s)) u
  dct : ∀ x kvs, c.dcts.contains (x, kvs) = true → ∃ a, X.mg (Str.ofString x) = some (.ref a) ∧ WDct X.K X.w a kvs
  fld : ∀ cls f, c.flds.contains (cls, f) = true → ∀ cad, PySem.W.nsIn X.K mainGlobals (Str.ofString cls) = some (some (.ref cad)) → Cls X.K cad ∧ NoAttr X.K cad (Str.ofString f)
  mth : ∀ cls m k, c.mths.contains (cls, m, k) = true → ∃ cad fa fd ps, PySem.W.nsIn X.K mainGlobals (Str.ofString cls) = some (some (.ref cad)) ∧ Cls X.K cad ∧ Meth X.K cad (Str.ofString m) fa ∧ Binds X.K fd ps [] ∧
    FnG X.prog X.w X.K X.mg X.base CX0 n fa fd ps (spOf X.K fun ds C P => G.Γ (methKey cls m) ds C P G.ex)
  mkc : ∀ cls k, c.clss.contains (cls, k) = true → ∃ cad, MkG X cls (fun ds C P => G.Γ cls ds C P G.ex) cad
  clo : ∀ mk nf, NfK X.K mk nf → NOkG X.prog X.w X.K X.mg X.base n nf (spClo X.K fun ds C P => G.Γ (cloKey mk) ds C P G.ex)
  ndf : ∀ mk sc, c.nst = some (mk, sc) → (∀ x, X.fn x = true) ∧ G.ex.cl = cloFrom X.env.cells sc.names [] ∧ ∀ nf, NfK X.K mk nf → nf.scope = sc
section
variable {c : Cfg} {G : Ctx} {n : Nat} {X : Cx}
theorem Good.r0 (g : Good c G n X) : Room 0 X.A := g.room.mono (Nat.zero_le _)
theorem ff {p : Prop} (h : false = true) : p := absurd h Bool.false_ne_true
theorem an {a b : Bool} (h : (a && b) = true) : a = true ∧ b = true := Bool.and_eq_true_iff.mp h
theorem plainNm_inv {x : Str} (h : plainNm x = true) : (x == ("__debug__" : Str)) = false ∧ (x == ("__classdict__" : Str)) = false ∧ x ≠ "__name__" := by
  unfold plainNm at h
  simp only [Bool.and_eq_true, Bool.not_eq_true'] at h
  exact ⟨h.1.1, h.1.2, fun e => by have := h.2; rw [e] at this; simp at this⟩
theorem visB_inv {sc : Scope} {x : Str} (h : visB sc x = true) : Vis sc x := by
  unfold visB at h
  split at h
  · exact .inl (by assumption)
  · exact .inr (.inl (by assumption))
  · exact .inr (.inr (by assumption))
  · cases h
theorem locB_inv {x : Str} (h : locB c x = true) : Loc c.sc x := by
  unfold locB at h
  split at h
  · exact .inl (by assumption)
  · exact .inr (by assumption)
  · cases h
theorem var_pe (g : Good c G n X) {i : Nat} {e : Expr} (h : chkVar c i e = true) : PE X e (tVar i) := by
  cases e with
  | Name x p =>
    obtain ⟨h1, h2⟩ := an (show (decide (c.N[i]? = some x) && visB c.sc x && plainNm x) = true from h)
    obtain ⟨h0, h1⟩ := an h1
    obtain ⟨p1, p2, _⟩ := plainNm_inv h2
    exact pe_var (by rw [g.hN]; exact of_decide_eq_true h0) (by rw [g.sc]; exact visB_inv h1) p1 p2
  | _ => exact ff h
/-- a built-in's name -/
theorem chkG_inv (g : Good c G n X) {s : String} {e : Expr} (h : chkG c s e = true) : ∃ p, e = .Name (Str.ofString s) p ∧ Gl X (Str.ofString s) ∧ plainNm (Str.ofString s) = true := by
  cases e with
  | Name x p =>
    obtain ⟨h1, h2⟩ := an (show (isNm s x && glB c.sc x && plainNm x) = true from h)
    obtain ⟨h0, h1⟩ := an h1
    have e : x = Str.ofString s := of_decide_eq_true h0
    subst e
    exact ⟨p, rfl, by show X.env.scope.names.lookup _ = _; rw [g.sc]; exact of_decide_eq_true h1, h2⟩
  | _ => exact ff h
theorem star_cons {e : Expr} {es : List Expr} {env : Env} (h : notStar e = true) : starEach (e :: es) env = (false, eval e env) :: starEach es env := by
  cases e <;> first | rfl | cases h
theorem chkEs_star : ∀ {as : Es} {es : List Expr} {pos : Pos} {env : Env}, chkEs c as es = true → (backTo pos (starEach es env)).any (·.1) = false
  | .nil, [], _, _, _ => rfl
  | .nil, _ :: _, _, _, h => ff h
  | .cons _ _, [], _, _, h => ff h
  | .cons a as, e :: es, pos, env, h => by
    obtain ⟨h1, h2⟩ := an (show (chkE c a e && notStar e && chkEs c as es) = true from h)
    obtain ⟨h0, h1⟩ := an h1
    rw [star_cons h1]
    show (false || (backTo pos (starEach es env)).any (·.1)) = false
    rw [chkEs_star h2]; rfl
theorem any1 {e : Expr} {pos : Pos} {env : Env} (h : notStar e = true) : (backTo pos (starEach [e] env)).any (·.1) = false := by
  rw [star_cons h]; rfl
theorem few1 {e : Expr} {pos : Pos} {env : Env} (h : notStar e = true) : ((backTo pos (starEach [e] env)).all (fun x => !x.1) && (backToKw pos (keywordEach [] env)).all (fun x => x.1.isSome)
      && decide (([e] : List Expr).length + ([] : List Keyword).length + (if ([] : List Keyword).isEmpty then 0 else 1) < 30)) = true := by
  rw [star_cons h]; rfl
theorem few2 {e d : Expr} {pos : Pos} {env : Env} (h : notStar e = true) (h2 : notStar d = true) : ((backTo pos (starEach [e, d] env)).all (fun x => !x.1) && (backToKw pos (keywordEach [] env)).all (fun x => x.1.isSome)
      && decide (([e, d] : List Expr).length + ([] : List Keyword).length + (if ([] : List Keyword).isEmpty then 0 else 1) < 30)) = true := by
  rw [star_cons h, star_cons h2]; rfl
theorem attr_plain {o : Expr} {m : Str} {env : Env} {w : Sem Value} (h : attrOk o = true) : attributeBase o m env w = w := by
  cases o with
  | Call f as ks p =>
    cases f with
    | Name x q => cases as <;> cases ks <;> first | rfl | cases h
    | _ => rfl
  | _ => rfl
theorem var_attr {i : Nat} {e : Expr} (h : chkVar c i e = true) : attrOk e = true := by cases e <;> first | rfl | cases h
theorem plainIx_of {b : Expr} (h : notSlice b = true) : PlainIx b := by
  cases b <;> first | (intro o i; rfl) | cases h
theorem test_plain {e : Expr} {env : Env} (h : plainTest e = true) : ∀ whole, isTrue e env whole = (do let v ← whole; standAt e.pos; holding [v] (truthy v)) := by
  intro whole
  cases e with
  | UnaryOp o x p => cases o <;> first | rfl | cases h
  | _ => first | rfl | cases h
theorem notSet_inv {e : Expr} {env : Env} (h : notSet e = true) : ∀ x, foldedSetIterable e env x = pure x := by
  intro x
  cases e <;> first | rfl | cases h
theorem noComp_sw {e : Expr} {t : Option Expr} {l : Nat} {env : Env} (h : notComp e = true) : swapsWith e t l env = pure false := by
  cases e <;> first | rfl | cases h
theorem bindTs_tgs {c : Cfg} : ∀ {ts : Tgs} {es : List Expr}, chkTgs c ts es = true → ∀ {ds : List D} {ρ : Rho} {P : Rho → Prop}, bindTs ts ds ρ P → True := fun _ _ _ _ _ => trivial
def tgsLen : Tgs → Nat
  | .nil => 0
  | .cons _ ts => tgsLen ts + 1
theorem chkTgs_len : ∀ {ts : Tgs} {es : List Expr}, chkTgs c ts es = true → es.length = tgsLen ts
  | .nil, [], _ => rfl
  | .nil, _ :: _, h => ff h
  | .cons _ _, [], h => ff h
  | .cons t ts, e :: es, h => by
    obtain ⟨_, h2⟩ := an (show (chkTg c t e && chkTgs c ts es) = true from h)
    show es.length + 1 = tgsLen ts + 1
    rw [chkTgs_len h2]
theorem bindT_some : ∀ {t : Tg} {d : D} {ρ : Rho} {P : Rho → Prop}, bindT t d ρ P → True := fun _ => trivial
theorem bindTs_len2 : ∀ {ts : Tgs} {ds : List D}, (∃ (ρ : Rho) (P : Rho → Prop), bindTs ts ds ρ P) → True := fun _ => trivial
theorem chkEs_all : ∀ {as : Es} {es : List Expr} {pos : Pos} {env : Env}, chkEs c as es = true → (backTo pos (starEach es env)).all (fun x => !x.1) = true
  | .nil, [], _, _, _ => rfl
  | .nil, _ :: _, _, _, h => ff h
  | .cons _ _, [], _, _, h => ff h
  | .cons a as, e :: es, pos, env, h => by
    obtain ⟨h1, h2⟩ := an (show (chkE c a e && notStar e && chkEs c as es) = true from h)
    obtain ⟨h0, h1⟩ := an h1
    rw [star_cons h1]
    show (!false && (backTo pos (starEach es env)).all (fun x => !x.1)) = true
    rw [chkEs_all h2]; rfl
/-- the tree of a method's call -/
theorem meth_ht {as : Es} {o : Expr} {m : Str} {es : List Expr} {apos pos : Pos} {env : Env} (h : chkEs c as es = true) (ho : attrOk o = true) (hl : (apos.endLine == pos.line) = true) (hz : es.length < 25) :
    eval (.Call (.Attribute o m apos) es [] pos) env = (do
      let ov ← eval o env
      standAt apos.atName
      let (f, first) ← holding [ov] (getMethod ov m (do return (← importBound o env).getD true))
      callWith pos f first (backTo pos (starEach es env)) (backToKw pos (keywordEach [] env))) := by
  have hform : methodCallForm (es.length + ([] : List Keyword).length) (backTo pos (starEach es env)) (backToKw pos (keywordEach [] env)) = true := by
    unfold methodCallForm
    rw [chkEs_all h]
    show (true && true && decide (es.length + 0 + 0 < 30)) = true
    rw [decide_eq_true (by omega)]; rfl
  have hpos : methodCallPos true o env apos pos = pure pos := by unfold methodCallPos; simp [hl]
  rw [arm_eval_Call, attr_plain ho]
  unfold methodCall
  rw [hform, hpos]
  unfold calleeOf
  simp only [if_true, pure_bind]
end
end M61

set_option Elab.async false
set_option linter.all false
set_option autoImplicit false
set_option maxRecDepth 100000
/-! M5c: the check is sound. -/
namespace M61
open PySem PySem.Spec PyProof.Rows L2
mutual
theorem bindT_ex : ∀ {t : Tg} {d : D} {ρ : Rho} {P : Rho → Prop}, bindT t d ρ P → ∃ ρ', P ρ'
  | .nm i, d, ρ, P, h => ⟨_, h⟩
  | .tp ts, .tup ds, ρ, P, h => (bindTs_ex (show bindTs ts ds ρ P from h)).1
  | .tp ts, .non, ρ, P, h => False.elim h
  | .tp ts, .bl _, ρ, P, h => False.elim h
  | .tp ts, .int _, ρ, P, h => False.elim h
  | .tp ts, .str _, ρ, P, h => False.elim h
  | .tp ts, .lst ds, ρ, P, h => (bindTs_ex (show bindTs ts ds ρ P from h)).1
  | .tp ts, .ref _, ρ, P, h => False.elim h
  | .tp ts, .scr _, ρ, P, h => False.elim h
  | .tp ts, .dic, ρ, P, h => False.elim h
  | .tp ts, .clo _ _ _, ρ, P, h => False.elim h
  | .tp ts, .opn _ _ _, ρ, P, h => False.elim h
theorem bindTs_ex : ∀ {ts : Tgs} {ds : List D} {ρ : Rho} {P : Rho → Prop}, bindTs ts ds ρ P → (∃ ρ', P ρ') ∧ ds.length = tgsLen ts
  | .nil, [], ρ, P, h => ⟨⟨ρ, h⟩, rfl⟩
  | .nil, _ :: _, ρ, P, h => False.elim h
  | .cons t ts, [], ρ, P, h => False.elim h
  | .cons t ts, d :: ds, ρ, P, h => by
    obtain ⟨ρ', h'⟩ := bindT_ex (show bindT t d ρ (fun ρ' => bindTs ts ds ρ' P) from h)
    obtain ⟨h1, h2⟩ := bindTs_ex h'
    exact ⟨h1, by rw [List.length_cons, h2]; rfl⟩
end
section
variable {c : Cfg} {G : Ctx} {n : Nat} {X : Cx}
theorem tg_assign {t : Tg} {e : Expr} {es : List Expr} {env : Env} (h : chkTg c t e = true) : assignEach (e :: es) env = (false, assign e env) :: assignEach es env := by
  cases t <;> cases e <;> first | rfl | exact ff h
theorem tgs_assign : ∀ {ts : Tgs} {es : List Expr} {env : Env}, chkTgs c ts es = true → List.findIdx? (fun x => x.1) (assignEach es env) = none ∧ (assignEach es env).length = es.length
  | .nil, [], _, _ => ⟨rfl, rfl⟩
  | .nil, _ :: _, _, h => ff h
  | .cons _ _, [], _, h => ff h
  | .cons t ts, e :: es, env, h => by
    obtain ⟨h1, h2⟩ := an (show (chkTg c t e && chkTgs c ts es) = true from h)
    obtain ⟨i1, i2⟩ := tgs_assign (env := env) h2
    rw [tg_assign h1]
    refine ⟨?_, by rw [List.length_cons, List.length_cons, i2]⟩
    rw [List.findIdx?_cons, i1]; rfl
mutual
theorem okTg (g : Good c G n X) : ∀ (t : Tg) (e : Expr), chkTg c t e = true → PG X e (rg X.K t)
  | .nm i, e, h => by
    cases e with
    | Name x p =>
      obtain ⟨h1, h2⟩ := an (show (decide (c.N[i]? = some x) && locB c x) = true from h)
      exact g_nm (pg_name (by rw [g.hN]; exact g.nd) (by rw [g.hN]; exact of_decide_eq_true h1) (by rw [g.sc]; exact locB_inv h2) (by rw [g.sc]; exact g.fn x h2))
    | _ => exact ff h
  | .tp ts, e, h => by
    cases e with
    | Tuple es k p =>
      have h : chkTgs c ts es = true := h
      exact g_tp (n := tgsLen ts) (fun q => (bindTs_ex q).2) (by rw [← chkTgs_len h]; exact pg_tup g.calm (okTgs g ts es h) (tgs_assign h).2 (tgs_assign h).1) (by rw [← chkTgs_len h]; exact pg_lst g.calm (okTgs g ts es h) (tgs_assign h).2 (tgs_assign h).1)
    | _ => exact ff h
theorem okTgs (g : Good c G n X) : ∀ (ts : Tgs) (es : List Expr), chkTgs c ts es = true → PGs X es (rgs X.K ts)
  | .nil, [], _ => gs_nil
  | .nil, _ :: _, h => ff h
  | .cons _ _, [], h => ff h
  | .cons t ts, e :: es, h => by
    obtain ⟨h1, h2⟩ := an (show (chkTg c t e && chkTgs c ts es) = true from h)
    exact gs_cons (pgs_cons (okTg g t e h1) (okTgs g ts es h2) (by rw [tg_assign h1]; rfl))
end
/-- a built-in function's call -/
theorem blt_call (g : Good c G n X) (f : Blt) {es : Es} {xs : List Expr} {nm : Expr} {pos : Pos} (h1 : chkG c (bltName f) nm = true) (h2 : chkEs c es xs = true) (h3 : xs ≠ []) (ha : PA X xs (rdA X.K (denEs G es))) :
    PE X (.Call nm xs [] pos) (rd X.K fun ρ C P => denEs G es ρ C fun ds ρ1 C1 => bltR C1 f ds fun d => P d ρ1 C1) := by
  obtain ⟨p, rfl, hg, hp⟩ := chkG_inv g h1
  obtain ⟨p1, _, p3⟩ := plainNm_inv hp
  cases xs with
  | nil => exact absurd rfl h3
  | cons e r =>
    have hs : notStar e = true := by
      cases es with
      | nil => exact ff h2
      | cons a as =>
        obtain ⟨q1, _⟩ := an (show (chkE c a e && notStar e && chkEs c as r) = true from h2)
        exact (an q1).2
    have st : ∀ env : Env, starEach (e :: r) env = (false, eval e env) :: starEach r env := fun env => star_cons hs
    have pl : (backTo pos (starEach r X.env)).any (·.1) = false := by
      cases es with
      | nil => exact ff h2
      | cons a as => exact chkEs_star (an (show (chkE c a e && notStar e && chkEs c as r) = true from h2)).2
    have r0 := g.r0
    cases f with
    | len => exact e_blt (pe_callB c_len hg (g.blt _ (by decide)) (by decide +kernel) ha p3 p1 (st _) pl)
    | tuple => exact e_blt (pe_callTy c_tuple hg (g.blt _ (by decide)) (by decide +kernel) ha p3 p1 (st _) pl)
    | sum => exact e_blt (pe_callB (c_sum g.calm) hg (g.blt _ (by decide)) (by decide +kernel) ha p3 p1 (st _) pl)
    | min => exact e_blt (pe_callB (c_min g.calm r0) hg (g.blt _ (by decide)) (by decide +kernel) ha p3 p1 (st _) pl)
    | max => exact e_blt (pe_callB (c_max g.calm r0) hg (g.blt _ (by decide)) (by decide +kernel) ha p3 p1 (st _) pl)
    | min2 => exact e_blt (pe_callB (c_min2 g.calm) hg (g.blt _ (by decide)) (by decide +kernel) ha p3 p1 (st _) pl)
    | max2 => exact e_blt (pe_callB (c_max2 g.calm) hg (g.blt _ (by decide)) (by decide +kernel) ha p3 p1 (st _) pl)
    | abs => exact e_blt (pe_callB c_abs hg (g.blt _ (by decide)) (by decide +kernel) ha p3 p1 (st _) pl)
    | int => exact e_blt (pe_callTy c_int hg (g.blt _ (by decide)) (by decide +kernel) ha p3 p1 (st _) pl)
    | all => exact e_blt (pe_callB (c_all g.calm) hg (g.blt _ (by decide)) (by decide +kernel) ha p3 p1 (st _) pl)
    | repr => exact e_blt (pe_callB (c_repr g.gd r0) hg (g.blt _ (by decide)) (by decide +kernel) ha p3 p1 (st _) pl)
    | str => exact e_blt (pe_callTy c_str hg (g.blt _ (by decide)) (by decide +kernel) ha p3 p1 (st _) pl)
    | mind => exact e_blt (pe_callB (c_mind g.calm r0) hg (g.blt _ (by decide)) (by decide +kernel) ha p3 p1 (st _) pl)
    | maxd => exact e_blt (pe_callB (c_maxd g.calm r0) hg (g.blt _ (by decide)) (by decide +kernel) ha p3 p1 (st _) pl)
    | min2d => exact e_blt (pe_callB (c_min2d g.calm r0) hg (g.blt _ (by decide)) (by decide +kernel) ha p3 p1 (st _) pl)
    | min3 => exact e_blt (pe_callB (c_min3 g.calm) hg (g.blt _ (by decide)) (by decide +kernel) ha p3 p1 (st _) pl)
    | any => exact e_blt (pe_callB (c_any g.calm) hg (g.blt _ (by decide)) (by decide +kernel) ha p3 p1 (st _) pl)
theorem ty_pe (g : Good c G n X) {t : Ty} {e : Expr} (h : chkG c (tyName t) e = true) : PE X e (tC (.ty (tyName t))) ∧ notStar e = true := by
  obtain ⟨p, rfl, hg, hp⟩ := chkG_inv g h
  obtain ⟨p1, _, p3⟩ := plainNm_inv hp
  refine ⟨?_, rfl⟩
  cases t <;> exact pe_bltn hg (g.blt _ (by decide)) (by decide +kernel) rfl p3 p1
end
end M61

set_option Elab.async false
set_option linter.all false
set_option autoImplicit false
set_option maxRecDepth 100000
set_option maxHeartbeats 4000000
/-! M5d: the check is sound: expressions. -/
namespace M61
open PySem PySem.Spec PyProof.Rows L2
section
variable {c : Cfg} {G : Ctx} {n : Nat} {X : Cx}
theorem own_of_map {N : List Str} : ∀ {own : List Nat}, True := fun {_} => trivial
/-- in a comprehension's block -/
theorem Good.blk (g : Good c G n X) {scope : Scope} (hk : scope.kind = .function) (s : Shared) (H : Hp) (C : Addr) (cl : List (Str × Addr)) (fp : List Addr) :
    Good { c with sc := relS scope c.sc, blk := some scope, nst := none } G n (X.blk s H scope (compEnvC scope cl C X.env) fp) where
  hN := g.hN
  nd := g.nd
  sc := by
    show relS scope X.env.scope = _
    rw [g.sc]
  kind := hk
  calm := g.calm
  fn := fun x h => by
    unfold locB at h
    split at h
    · exact .inr (by assumption)
    · exact .inl h
    · cases h
  xe := rfl
  room := g.room
  gd := g.gd
  blt := g.blt
  fns := g.fns
  con := g.con
  txt := g.txt
  dct := g.dct
  fld := g.fld
  mth := g.mth
  mkc := fun cls k h => by
    obtain ⟨cad, m⟩ := g.mkc cls k h
    exact ⟨cad, m.mgf, m.kp, m.ns, m.run⟩
  clo := g.clo
  ndf := fun _ _ h => nomatch h
/-- swapped: stored at once -/
def SwOk (X : Cx) (c : Cfg) (e : Expr) (t : TE) : Prop := ∀ (i : Nat) (x : Str) (px spos : Pos), c.N[i]? = some x → swB c x px e = true → PS X (.Assign [.Name x px] e spos) (tAsg t (gName i))
theorem swok_weak {e : Expr} {t t' : TE} (h : SwOk X c e t) (k : ∀ σ H Q, t' σ H Q → t σ H Q) : SwOk X c e t' := fun i x px sp h1 h2 => ps_weak (h i x px sp h1 h2) fun D σ H q => k σ H _ q
theorem swok_no {e : Expr} {t : TE} (h : notComp e = true) : SwOk X c e t := fun i x px sp h1 h2 => by
  cases e <;> first | exact ff h2 | exact ff h
theorem sw_any {px sp : Pos} {elt : Expr} {gs : List Comprehension} {scope : Scope} {p : Pos} {y : Str} {env : Env} (hk : env.scope.kind = .function) (hy : env.scope.names.lookup y = some .local) (hl : (px.line == p.line) = true)
    (ha : (scope.names.any fun (n, k) => n == y && (k == .local || k == .cell)) = false) : swapsWith (.ListComp elt gs scope p) (some (.Name y px)) sp.line env = pure true := sw_true hk hy hl ha
theorem pw_of_pt {t : TT} {op : BoolOp} {xs : List Expr} {p : Pos} (h : PT X (.BoolOp op xs p) t) : PW X (.BoolOp op xs p) t := ⟨fun whole pins s σ H Q I q => h.run pins s σ H Q I q⟩
theorem noSl_of {b : Expr} (h : notSlice b = true) : NoSl b := by
  cases b <;> first | (intro o i; rfl) | cases h
theorem chkKV_inv {X : Cx} {p : Pos} : ∀ {kvs : List (String × String)} {ks : List (Option Expr)} {vs : List Expr}, chkKV kvs ks vs = true → PPs X p ks vs (dlkT kvs) ∧ ks.all (·.isSome) = true ∧ ks.length = kvs.length ∧ ks.length = vs.length := by
  intro kvs
  induction kvs with
  | nil =>
    intro ks vs h
    rcases ks with _ | ⟨k, ks⟩ <;> rcases vs with _ | ⟨v, vs⟩ <;> first | exact ff h | exact ⟨pps_nil, rfl, rfl, rfl⟩
  | cons q kvs ih =>
    intro ks vs h
    rcases ks with _ | ⟨k, ks⟩
    · exact ff h
    rcases vs with _ | ⟨v, vs⟩
    · rcases k with _ | k
      · exact ff h
      · cases k with
        | Constant w j p' => cases w <;> exact ff h
        | _ => exact ff h
    rcases k with _ | k
    · exact ff h
    cases k with
    | Constant w j p' =>
      cases w with
      | str x =>
        cases v with
        | Constant w' j' p'' =>
          cases w' with
          | str y =>
            obtain ⟨h, h3⟩ := an (show (isNm q.1 x && isNm q.2 y && chkKV kvs ks vs) = true from h)
            obtain ⟨h1, h2⟩ := an h
            obtain ⟨i1, i2, i3, i4⟩ := ih h3
            have e1 : x = Str.ofString q.1 := of_decide_eq_true h1
            have e2 : y = Str.ofString q.2 := of_decide_eq_true h2
            subst e1 e2
            exact ⟨pps_cons pe_str pe_str i1, by rw [List.all_cons, i2]; rfl, by rw [List.length_cons, List.length_cons, i3], by rw [List.length_cons, List.length_cons, i4]⟩
          | _ => exact ff h
        | _ => exact ff h
      | _ => exact ff h
    | _ => exact ff h
def msOf (G : Ctx) : Es → List ME
  | .nil => []
  | .cons e es => denE G e :: msOf G es
theorem chain_ms (G : Ctx) : ∀ es : Es, chainM (msOf G es) = denEs G es
  | .nil => rfl
  | .cons e es => by
    funext ρ C P
    show denE G e ρ C (fun x ρ1 C1 => chainM (msOf G es) ρ1 C1 fun xs ρ2 C2 => P (x :: xs) ρ2 C2) = denE G e ρ C (fun x ρ1 C1 => denEs G es ρ1 C1 fun xs ρ2 C2 => P (x :: xs) ρ2 C2)
    rw [chain_ms G es]
theorem chkKs_len : ∀ {ks : List String} {keys : List (Option Expr)}, chkKs ks keys = true → keys.length = ks.length ∧ keys.all (·.isSome) = true
  | [], [], _ => ⟨rfl, rfl⟩
  | [], _ :: _, h => ff h
  | _ :: _, [], h => ff h
  | k :: ks, none :: keys, h => ff h
  | k :: ks, some e :: keys, h => by
    cases e with
    | Constant w j p =>
      cases w with
      | str x =>
        obtain ⟨_, h2⟩ := an (show (isNm k x && chkKs ks keys) = true from h)
        obtain ⟨i1, i2⟩ := chkKs_len h2
        exact ⟨by rw [List.length_cons, List.length_cons, i1], by rw [List.all_cons, i2]; rfl⟩
      | _ => exact ff h
    | _ => exact ff h
theorem chkEs_len {c : Cfg} : ∀ {es : Es} {xs : List Expr}, chkEs c es xs = true → (msOf G es).length = xs.length
  | .nil, [], _ => rfl
  | .nil, _ :: _, h => ff h
  | .cons _ _, [], h => ff h
  | .cons a as, e :: es, h => by
    obtain ⟨_, h3⟩ := an (show (chkE c a e && notStar e && chkEs c as es) = true from h)
    show (msOf G as).length + 1 = es.length + 1
    rw [chkEs_len h3]
mutual
theorem okE : ∀ (a : E) (c : Cfg) (X : Cx) (_ : Good c G n X) (e : Expr), chkE c a e = true → PE X e (rd X.K (denE G a))
  | .var i, c, X, g, e, h => e_var (var_pe g h)
  | .mv i, c, X, g, e, h => e_mv (var_pe g h)
  | .non, c, X, g, e, h => by
    cases e with
    | Constant k j p => cases k <;> first | exact ff h | exact e_const pe_non fun F => .non
    | _ => exact ff h
  | .bl b, c, X, g, e, h => by
    cases e with
    | Constant k j p =>
      cases k with
      | bool b' =>
        have eb : b = b' := eq_of_beq h
        subst eb
        exact e_const pe_bl fun F => .bl b
      | _ => exact ff h
    | _ => exact ff h
  | .int i, c, X, g, e, h => by
    cases e with
    | Constant k j p =>
      cases k with
      | int b' =>
        have eb : i = b' := of_decide_eq_true h
        subst eb
        exact e_const pe_int fun F => .int i
      | _ => exact ff h
    | _ => exact ff h
  | .str s, c, X, g, e, h => by
    cases e with
    | Constant k j p =>
      cases k with
      | str b' =>
        have eb : b' = Str.ofString s := of_decide_eq_true h
        subst eb
        exact e_const pe_str fun F => .str _
      | _ => exact ff h
    | _ => exact ff h
  | .con x i, c, X, g, e, h => by
    cases e with
    | Name y p =>
      obtain ⟨h, h4⟩ := an (show (isNm x y && glB c.sc y && plainNm y && c.cons.contains (x, i)) = true from h)
      obtain ⟨h, h3⟩ := an h
      obtain ⟨h1, h2⟩ := an h
      have e : y = Str.ofString x := of_decide_eq_true h1
      subst e
      obtain ⟨u, hm, r⟩ := g.con x i h4
      exact e_const (pe_glob (by show X.env.scope.names.lookup _ = _; rw [g.sc]; exact of_decide_eq_true h2) hm r (plainNm_inv h3).1) fun F => .int i
    | _ => exact ff h
  | .cns x i, c, X, g, e, h => by
    cases e with
    | Name y p =>
      obtain ⟨h, h4⟩ := an (show (isNm x y && glB c.sc y && plainNm y && c.txts.contains (x, i)) = true from h)
      obtain ⟨h, h3⟩ := an h
      obtain ⟨h1, h2⟩ := an h
      have e : y = Str.ofString x := of_decide_eq_true h1
      subst e
      obtain ⟨u, hm, r⟩ := g.txt x i h4
      exact e_const (pe_glob (by show X.env.scope.names.lookup _ = _; rw [g.sc]; exact of_decide_eq_true h2) hm r (plainNm_inv h3).1) fun F => .str _
    | _ => exact ff h
  | .bin o a b, c, X, g, e, h => by
    cases e with
    | BinOp l op r p =>
      obtain ⟨h, h3⟩ := an (show (decide (op = popOf o) && chkE c a l && chkE c b r) = true from h)
      obtain ⟨h1, h2⟩ := an h
      have e : op = popOf o := of_decide_eq_true h1
      subst e
      exact e_op2 (pe_op (s_bin o) (okE a _ _ g l h2) (okE b _ _ g r h3))
    | _ => exact ff h
  | .neg a, c, X, g, e, h => by
    cases e with
    | UnaryOp op x p =>
      cases op with
      | USub => exact e_neg (pe_un un_neg (okE a _ _ g x h))
      | _ => exact ff h
    | _ => exact ff h
  | .cmp o a b, c, X, g, e, h => by
    cases e with
    | Compare l ops rs p =>
      cases ops with
      | nil => exact ff h
      | cons op ops =>
        cases ops with
        | cons _ _ => exact ff h
        | nil =>
          cases rs with
          | nil => exact ff h
          | cons r rs =>
            cases rs with
            | cons _ _ => exact ff h
            | nil =>
              obtain ⟨h, h4⟩ := an (show (decide (op = copOf o) && chkE c a l && chkE c b r && !behindInMarks op r) = true from h)
              obtain ⟨h, h3⟩ := an h
              obtain ⟨h1, h2⟩ := an h
              have e : op = copOf o := of_decide_eq_true h1
              subst e
              exact e_op2 (r := fun d e P => cmpR o d e fun b => P (.bl b)) (pe_cmpR (s_cmp g.r0 o) (okE a _ _ g l h2) (okE b _ _ g r h3) (by simpa using h4))
    | _ => exact ff h
  | .chn o o' a b d, c, X, g, e, h => by
    cases e with
    | Compare l ops rs p =>
      cases ops with
      | nil => exact ff h
      | cons op ops =>
        cases ops with
        | nil => cases rs with
          | nil => exact ff h
          | cons _ rs => cases rs <;> exact ff h
        | cons op' ops =>
          cases ops with
          | cons _ _ => exact ff h
          | nil =>
            cases rs with
            | nil => exact ff h
            | cons m rs =>
              cases rs with
              | nil => exact ff h
              | cons r rs =>
                cases rs with
                | cons _ _ => exact ff h
                | nil =>
                  obtain ⟨h, h6⟩ := an (show (decide (op = copOf o) && decide (op' = copOf o') && chkE c a l && chkE c b m && chkE c d r && !lastMarks [op, op'] [m, r]) = true from h)
                  obtain ⟨h, h5⟩ := an h
                  obtain ⟨h, h4⟩ := an h
                  obtain ⟨h, h3⟩ := an h
                  obtain ⟨h1, h2⟩ := an h
                  have e : op = copOf o := of_decide_eq_true h1
                  have e' : op' = copOf o' := of_decide_eq_true h2
                  subst e e'
                  exact e_chn (pe_chain (s_cmp g.r0 o) (s_cmp g.r0 o') (okE a _ _ g l h3) (okE b _ _ g m h4) (okE d _ _ g r h5) (by simpa using h6))
    | _ => exact ff h
  | .chn3 o o' o'' a b d f, c, X, g, e, h => by
    cases e with
    | Compare l ops rs p =>
      rcases ops with _ | ⟨op, _ | ⟨op', _ | ⟨op'', _ | ⟨_, _⟩⟩⟩⟩ <;> rcases rs with _ | ⟨m, _ | ⟨r, _ | ⟨q, _ | ⟨_, _⟩⟩⟩⟩ <;> first | exact ff h | skip
      obtain ⟨h, h8⟩ := an (show (decide (op = copOf o) && decide (op' = copOf o') && decide (op'' = copOf o'') && chkE c a l && chkE c b m && chkE c d r && chkE c f q && !lastMarks [op, op', op''] [m, r, q]) = true from h)
      obtain ⟨h, h7⟩ := an h
      obtain ⟨h, h6⟩ := an h
      obtain ⟨h, h5⟩ := an h
      obtain ⟨h, h4⟩ := an h
      obtain ⟨h, h3⟩ := an h
      obtain ⟨h1, h2⟩ := an h
      have e : op = copOf o := of_decide_eq_true h1
      have e' : op' = copOf o' := of_decide_eq_true h2
      have e'' : op'' = copOf o'' := of_decide_eq_true h3
      subst e e' e''
      exact e_chn3 (pe_chain3 (s_cmp g.r0 o) (s_cmp g.r0 o') (s_cmp g.r0 o'') (okE a _ _ g l h4) (okE b _ _ g m h5) (okE d _ _ g r h6) (okE f _ _ g q h7) (by simpa using h8))
    | _ => exact ff h
  | .dlk kvs a, c, X, g, e, h => by
    cases e with
    | Subscript v s p =>
      cases v with
      | Dict ks vs p2 =>
        obtain ⟨h, h5⟩ := an (show (chkKV kvs ks vs && chkE c a s && notSlice s && decide (kvs ≠ []) && decide (kvs.length ≤ 15)) = true from h)
        obtain ⟨h, h4⟩ := an h
        obtain ⟨h, h3⟩ := an h
        obtain ⟨h1, h2⟩ := an h
        obtain ⟨k1, k2, k3, k4⟩ := chkKV_inv (X := X) (p := p2) h1
        have hu : X.A.units + 1 < cLine := by have := g.room.units; omega
        have hne : ks ≠ [] := fun e => by
          rw [e] at k3
          exact (of_decide_eq_true h4 : kvs ≠ []) (List.length_eq_zero_iff.mp k3.symm)
        exact e_dlk (of_decide_eq_true h5) (pe_dget hu (pe_disp k1 k2 k4 hne (by rw [k3]; exact of_decide_eq_true h5)) (okE a _ _ g s h2) (noSl_of h3))
      | _ => exact ff h
    | _ => exact ff h
  | .celd ks es, c, X, g, e, h => by
    cases e with
    | Dict keys vals p =>
      obtain ⟨h, h5⟩ := an (show (chkKs ks keys && chkEs c es vals && decide (ks ≠ []) && decide (ks.length ≤ 15) && decide (keys.length = vals.length)) = true from h)
      obtain ⟨h, h4⟩ := an h
      obtain ⟨h, h3⟩ := an h
      obtain ⟨h1, h2⟩ := an h
      obtain ⟨l1, l2⟩ := chkKs_len h1
      have hne : keys ≠ [] := fun e => by
        rw [e] at l1
        exact (of_decide_eq_true h3 : ks ≠ []) (List.length_eq_zero_iff.mp l1.symm)
      have hl : keys.length = vals.length := of_decide_eq_true h5
      have e1 := okPs es c X g ks keys vals p h1 h2 hl
      have := e_celd (ms := msOf G es) (of_decide_eq_true h4) (by rw [chkEs_len h2, ← hl, l1]) (pe_disp e1 l2 hl hne (by rw [l1]; exact of_decide_eq_true h4))
      rw [chain_ms] at this
      exact this
    | _ => exact ff h
  | .edic, c, X, g, e, h => by
    cases e with
    | Dict keys vals p =>
      cases keys with
      | nil =>
        cases vals with
        | nil => exact e_edic pe_dnewT
        | cons _ _ => exact ff h
      | cons _ _ => exact ff h
    | _ => exact ff h
  | .ndic k a, c, X, g, e, h => by
    cases e with
    | Dict keys vals p =>
      cases keys with
      | nil => cases vals <;> exact ff h
      | cons kk keys =>
        cases kk with
        | none => exact ff h
        | some kk =>
          cases keys with
          | cons _ _ => cases kk <;> exact ff h
          | nil =>
            cases kk with
            | Constant w j p2 =>
              cases vals with
              | nil => exact ff h
              | cons v vals =>
                cases vals with
                | cons _ _ => exact ff h
                | nil =>
                  obtain ⟨h1, h2⟩ := an (show (keyB k w && chkE c a v) = true from h)
                  cases k with
                  | inl i =>
                    cases w with
                    | int i' =>
                      have e1 : i = i' := of_decide_eq_true h1
                      subst e1
                      exact e_ndic (k := Sum.inl i) (pe_disp (pps_cons pe_int (okE a _ _ g v h2) pps_nil) rfl rfl (by simp) (by show 1 ≤ 15; decide))
                    | _ => exact ff h1
                  | inr s =>
                    cases w with
                    | str x =>
                      have e1 : x = Str.ofString s := of_decide_eq_true h1
                      subst e1
                      exact e_ndic (k := Sum.inr (Str.ofString s)) (pe_disp (pps_cons pe_str (okE a _ _ g v h2) pps_nil) rfl rfl (by simp) (by show 1 ≤ 15; decide))
                    | _ => exact ff h1
            | _ => exact ff h
    | _ => exact ff h
  | .dix a k, c, X, g, e, h => by
    cases e with
    | Subscript v s p =>
      cases s with
      | Constant w j p2 =>
        cases w with
        | str x =>
          obtain ⟨h1, h2⟩ := an (show (chkE c a v && isNm k x) = true from h)
          have e1 : x = Str.ofString k := of_decide_eq_true h2
          subst e1
          have hu : X.A.units + 1 < cLine := by have := g.room.units; omega
          exact e_dix (pe_dget hu (okE a _ _ g v h1) pe_str (noSl_of rfl))
        | _ => exact ff h
      | _ => exact ff h
    | _ => exact ff h
  | .and a b, c, X, g, e, h => by
    cases e with
    | BoolOp op xs p =>
      cases op with
      | Or => cases xs with
        | nil => exact ff h
        | cons _ xs => cases xs with
          | nil => exact ff h
          | cons _ xs => cases xs <;> exact ff h
      | And =>
        cases xs with
        | nil => exact ff h
        | cons x xs =>
          cases xs with
          | nil => exact ff h
          | cons y xs =>
            cases xs with
            | nil =>
              obtain ⟨h1, h2⟩ := an (show (chkE c a x && chkE c b y) = true from h)
              exact e_and (pe_and (okE a _ _ g x h1) (pe_one (okE b _ _ g y h2)))
            | cons z r =>
              obtain ⟨h1, h2⟩ := an (show (chkE c a x && chkE c b (.BoolOp .And (y :: z :: r) p)) = true from h)
              exact e_and (pe_and (okE a _ _ g x h1) (okE b _ _ g _ h2))
    | _ => exact ff h
  | .or a b, c, X, g, e, h => by
    cases e with
    | BoolOp op xs p =>
      cases op with
      | And => cases xs with
        | nil => exact ff h
        | cons _ xs => cases xs with
          | nil => exact ff h
          | cons _ xs => cases xs <;> exact ff h
      | Or =>
        cases xs with
        | nil => exact ff h
        | cons x xs =>
          cases xs with
          | nil => exact ff h
          | cons y xs =>
            cases xs with
            | nil =>
              obtain ⟨h1, h2⟩ := an (show (chkE c a x && chkE c b y) = true from h)
              exact e_or (pe_or (okE a _ _ g x h1) (pe_one (okE b _ _ g y h2)))
            | cons z r =>
              obtain ⟨h1, h2⟩ := an (show (chkE c a x && chkE c b (.BoolOp .Or (y :: z :: r) p)) = true from h)
              exact e_or (pe_or (okE a _ _ g x h1) (okE b _ _ g _ h2))
    | _ => exact ff h
  | .not a, c, X, g, e, h => by
    cases e with
    | UnaryOp op x p =>
      cases op with
      | Not => exact e_not (pe_not (okE a _ _ g x h))
      | _ => exact ff h
    | _ => exact ff h
  | .ife t a b, c, X, g, e, h => by
    cases e with
    | IfExp q x y p =>
      obtain ⟨h, h3⟩ := an (show (chkT c t q && chkE c a x && chkE c b y) = true from h)
      obtain ⟨h1, h2⟩ := an h
      exact e_ife (pe_ifExp (okT t _ _ g q h1) (okE a _ _ g x h2) (okE b _ _ g y h3))
    | _ => exact ff h
  | .tup es, c, X, g, e, h => by
    cases e with
    | Tuple xs k p => exact e_tup (pe_tup (okEs es _ _ g xs h))
    | _ => exact ff h
  | .frz l, c, X, g, e, h => e_frz (okL l _ _ g e h).1
  | .cel l, c, X, g, e, h => e_cel (okL l _ _ g e h).1
  | .ix a b, c, X, g, e, h => by
    cases e with
    | Subscript v s p =>
      obtain ⟨h, h3⟩ := an (show (chkE c a v && chkE c b s && notSlice s) = true from h)
      obtain ⟨h1, h2⟩ := an h
      exact e_ix (pe_ix ix_or (okE a _ _ g v h1) (okE b _ _ g s h2) (plainIx_of h3))
    | _ => exact ff h
  | .sl a lo hi, c, X, g, e, h => by
    cases e with
    | Subscript v s p =>
      cases s with
      | Slice l u st p2 =>
        cases st with
        | none =>
          obtain ⟨h, h3⟩ := an (show (chkE c a v && chkO c lo l && chkO c hi u) = true from h)
          obtain ⟨h1, h2⟩ := an h
          exact e_sl (pe_slice s_sl (okE a _ _ g v h1) (okO lo _ _ g l h2) (okO hi _ _ g u h3))
        | some _ => exact ff h
      | _ => exact ff h
    | _ => exact ff h
  | .rev a, c, X, g, e, h => by
    cases e with
    | Subscript v s p =>
      cases s with
      | Slice l u st p2 =>
        cases l with
        | some _ => exact ff h
        | none =>
          cases u with
          | some _ => exact ff h
          | none =>
            cases st with
            | none => exact ff h
            | some q =>
              cases q with
              | UnaryOp op x p3 =>
                cases op with
                | USub =>
                  cases x with
                  | Constant k j p4 =>
                    cases k with
                    | int i =>
                      obtain ⟨h1, h2⟩ := an (show (chkE c a v && decide (i = 1)) = true from h)
                      have e : i = 1 := of_decide_eq_true h2
                      subst e
                      exact e_rev (pe_revA (okE a _ _ g v h1))
                    | _ => exact ff h
                  | _ => exact ff h
                | _ => exact ff h
              | _ => exact ff h
      | _ => exact ff h
    | _ => exact ff h
  | .call f es, c, X, g, e, h => by
    cases e with
    | Call fn xs ks p =>
      cases fn with
      | Name x q =>
        cases ks with
        | cons _ _ => exact ff h
        | nil =>
          obtain ⟨h, h5⟩ := an (show (isNm f x && glB c.sc x && plainNm x && c.sigs.contains (f, xs.length) && chkEs c es xs) = true from h)
          obtain ⟨h, h4⟩ := an h
          obtain ⟨h, h3⟩ := an h
          obtain ⟨h1, h2⟩ := an h
          have e : x = Str.ofString f := of_decide_eq_true h1
          subst e
          obtain ⟨fa, fd, ps, hm, kp, hb, F⟩ := g.fns f _ h4
          have hg : Gl X (Str.ofString f) := by show X.env.scope.names.lookup _ = _; rw [g.sc]; exact of_decide_eq_true h2
          have ha := okEs es _ _ g xs h5
          cases xs with
          | nil =>
            cases es with
            | nil => exact e_call (E := E0) (ma := fun ρ C P => P [] ρ C) (pe_weak (pe_callG0 (E := E0) F g.gd g.room hg hm kp hb .nil pass0 (plainNm_inv h3).1) fun σ H Q q => by
                obtain ⟨B, F, ρ, C, P, R, m, k⟩ := q
                exact k [] ρ C F [] H (Same.refl _) R .nil m)
            | cons _ _ => exact ff h5
          | cons e r =>
            have hs : notStar e = true := by
              cases es with
              | nil => exact ff h5
              | cons a as => exact (an (an (show (chkE c a e && notStar e && chkEs c as r) = true from h5)).1).2
            have pl : (backTo p (starEach r X.env)).any (·.1) = false := by
              cases es with
              | nil => exact ff h5
              | cons a as => exact chkEs_star (an (show (chkE c a e && notStar e && chkEs c as r) = true from h5)).2
            exact e_call (E := E0) (pe_callG F g.gd g.room hg hm kp hb .nil pass0 ha (plainNm_inv h3).1 (star_cons hs) pl)
      | _ => exact ff h
    | _ => exact ff h
  | .blt f es, c, X, g, e, h => by
    cases e with
    | Call fn xs ks p =>
      cases ks with
      | cons _ _ => exact ff h
      | nil =>
        obtain ⟨h, h3⟩ := an (show (chkG c (bltName f) fn && chkEs c es xs && decide (xs ≠ [])) = true from h)
        obtain ⟨h1, h2⟩ := an h
        exact blt_call g f h1 h2 (of_decide_eq_true h3) (okEs es _ _ g xs h2)
    | _ => exact ff h
  | .isi a t, c, X, g, e, h => by
    cases e with
    | Call fn xs ks p =>
      cases xs with
      | nil => exact ff h
      | cons x xs =>
        cases xs with
        | nil => exact ff h
        | cons y xs =>
          cases xs with
          | cons _ _ => exact ff h
          | nil =>
            cases ks with
            | cons _ _ => exact ff h
            | nil =>
              obtain ⟨h, h4⟩ := an (show (chkG c "isinstance" fn && chkE c a x && notStar x && chkG c (tyName t) y) = true from h)
              obtain ⟨h, h3⟩ := an h
              obtain ⟨h1, h2⟩ := an h
              obtain ⟨q, rfl, hg, hp⟩ := chkG_inv g h1
              obtain ⟨p1, _, p3⟩ := plainNm_inv hp
              obtain ⟨hy, sy⟩ := ty_pe g h4
              exact e_isi (pe_callB (c_isi t) hg (g.blt _ (by decide)) (by decide +kernel) (pa_cons (okE a _ _ g x h2) (pa_cons hy pa_nil (star_cons sy)) (star_cons h3)) p3 p1 (star_cons h3) (any1 sy))
    | _ => exact ff h
  | .trg1 a, c, X, g, e, h => by
    cases e with
    | Call fn xs ks p =>
      cases xs with
      | nil => exact ff h
      | cons u xs =>
        cases xs with
        | cons _ _ => cases u with
          | Call fm ys ls p2 => cases ys with
            | nil => exact ff h
            | cons _ ys => cases ys with
              | nil => cases ls <;> exact ff h
              | cons _ ys => exact ff h
          | _ => exact ff h
        | nil =>
          cases u with
          | Call fm ys ls p2 =>
            cases ys with
            | nil => exact ff h
            | cons x ys =>
              cases ys with
              | cons _ _ => exact ff h
              | nil =>
                cases ls with
                | cons _ _ => exact ff h
                | nil =>
                  cases ks with
                  | cons _ _ => exact ff h
                  | nil =>
                    obtain ⟨h, h4⟩ := an (show (chkG c "tuple" fn && chkG c "range" fm && chkE c a x && notStar x) = true from h)
                    obtain ⟨h, h3⟩ := an h
                    obtain ⟨h1, h2⟩ := an h
                    obtain ⟨q, rfl, hg, hp⟩ := chkG_inv g h1
                    obtain ⟨q2, rfl, hg2, hp2⟩ := chkG_inv g h2
                    exact e_trg1 (pe_tupRg g.calm hg (g.blt _ (by decide)) (prg_1 hg2 (g.blt _ (by decide)) (okE a _ _ g x h3) (star_cons h4)) rfl)
          | _ => exact ff h
    | _ => exact ff h
  | .oix i b, c, X, g, e, h => by
    cases e with
    | Subscript v s p =>
      obtain ⟨h, h3⟩ := an (show (chkVar c i v && chkE c b s && notSlice s) = true from h)
      obtain ⟨h1, h2⟩ := an h
      exact e_oix (pe_ix ix_list (var_pe g h1) (okE b _ _ g s h2) (plainIx_of h3))
    | _ => exact ff h
  | .olen i, c, X, g, e, h => by
    cases e with
    | Call fn xs ks p =>
      cases xs with
      | nil => exact ff h
      | cons x xs =>
        cases xs with
        | cons _ _ => exact ff h
        | nil =>
          cases ks with
          | cons _ _ => exact ff h
          | nil =>
            obtain ⟨h1, h2⟩ := an (show (chkG c "len" fn && chkVar c i x) = true from h)
            obtain ⟨q, rfl, hg, hp⟩ := chkG_inv g h1
            obtain ⟨p1, _, p3⟩ := plainNm_inv hp
            have hs : notStar x = true := by cases x <;> first | rfl | exact ff h2
            exact e_olen (pe_callB call_len_seq hg (g.blt _ (by decide)) (by decide +kernel) (pa_cons (var_pe g h2) pa_nil (star_cons hs)) p3 p1 (star_cons hs) rfl)
    | _ => exact ff h
  | .one i, c, X, g, e, h => by
    cases e with
    | Compare l ops rs p =>
      cases ops with
      | nil => exact ff h
      | cons op ops =>
        cases rs with
        | nil => cases ops <;> cases op <;> exact ff h
        | cons r rs =>
          cases ops with
          | cons _ _ => cases op <;> exact ff h
          | nil =>
            cases op <;> first | (cases rs <;> cases r <;> exact ff h) | skip
            cases rs with
            | cons _ _ => cases r <;> first | exact ff h | (rename_i es _; cases es <;> exact ff h)
            | nil =>
              cases r with
              | List es q =>
                cases es with
                | nil => exact e_one (pe_cmpR (op_neD g.r0.units) (var_pe g h) (pe_lst pa_nil) rfl)
                | cons _ _ => exact ff h
              | _ => exact ff h
    | _ => exact ff h
  | .oem i, c, X, g, e, h => by
    cases e with
    | Compare l ops rs p =>
      cases ops with
      | nil => exact ff h
      | cons op ops =>
        cases rs with
        | nil => cases ops <;> cases op <;> exact ff h
        | cons r rs =>
          cases ops with
          | cons _ _ => cases op <;> exact ff h
          | nil =>
            cases op <;> first | (cases rs <;> cases r <;> exact ff h) | skip
            cases rs with
            | cons _ _ => cases r <;> first | exact ff h | (rename_i es _; cases es <;> exact ff h)
            | nil =>
              cases r with
              | List es q =>
                cases es with
                | nil => exact e_oem (pe_cmpR (op_eqD g.r0.units) (var_pe g h) (pe_lst pa_nil) rfl)
                | cons _ _ => exact ff h
              | _ => exact ff h
    | _ => exact ff h
  | .lne a, c, X, g, e, h => by
    cases e with
    | Compare l ops rs p =>
      cases ops with
      | nil => exact ff h
      | cons op ops =>
        cases rs with
        | nil => cases ops <;> cases op <;> exact ff h
        | cons r rs =>
          cases ops with
          | cons _ _ => cases op <;> exact ff h
          | nil =>
            cases op <;> first | (cases rs <;> cases r <;> exact ff h) | skip
            cases rs with
            | cons _ _ => cases r <;> first | exact ff h | (rename_i es _; cases es <;> exact ff h)
            | nil =>
              cases r with
              | List es q =>
                cases es with
                | nil => exact e_lse (f := (!·)) (pe_cmpR (op_lsn (by have := g.r0.units; omega)) (okE a c X g l h) (pe_lst pa_nil) rfl)
                | cons _ _ => exact ff h
              | _ => exact ff h
    | _ => exact ff h
  | .leq a, c, X, g, e, h => by
    cases e with
    | Compare l ops rs p =>
      cases ops with
      | nil => exact ff h
      | cons op ops =>
        cases rs with
        | nil => cases ops <;> cases op <;> exact ff h
        | cons r rs =>
          cases ops with
          | cons _ _ => cases op <;> exact ff h
          | nil =>
            cases op <;> first | (cases rs <;> cases r <;> exact ff h) | skip
            cases rs with
            | cons _ _ => cases r <;> first | exact ff h | (rename_i es _; cases es <;> exact ff h)
            | nil =>
              cases r with
              | List es q =>
                cases es with
                | nil => exact e_lse (f := id) (pe_cmpR (op_lse (by have := g.r0.units; omega)) (okE a c X g l h) (pe_lst pa_nil) rfl)
                | cons _ _ => exact ff h
              | _ => exact ff h
    | _ => exact ff h
  | .cne a, c, X, g, e, h => by
    cases e with
    | Compare l ops rs p =>
      cases ops with
      | nil => exact ff h
      | cons op ops =>
        cases rs with
        | nil => cases ops <;> cases op <;> exact ff h
        | cons r rs =>
          cases ops with
          | cons _ _ => cases op <;> exact ff h
          | nil =>
            cases op <;> first | (cases rs <;> cases r <;> exact ff h) | skip
            cases rs with
            | cons _ _ => cases r <;> first | exact ff h | (rename_i es _; cases es <;> exact ff h)
            | nil =>
              cases r with
              | List es q =>
                cases es with
                | nil => exact e_cne (pe_cmpR (op_neD g.r0.units) (okE a c X g l h) (pe_lst pa_nil) rfl)
                | cons _ _ => exact ff h
              | _ => exact ff h
    | _ => exact ff h
  | .ceq a, c, X, g, e, h => by
    cases e with
    | Compare l ops rs p =>
      cases ops with
      | nil => exact ff h
      | cons op ops =>
        cases rs with
        | nil => cases ops <;> cases op <;> exact ff h
        | cons r rs =>
          cases ops with
          | cons _ _ => cases op <;> exact ff h
          | nil =>
            cases op <;> first | (cases rs <;> cases r <;> exact ff h) | skip
            cases rs with
            | cons _ _ => cases r <;> first | exact ff h | (rename_i es _; cases es <;> exact ff h)
            | nil =>
              cases r with
              | List es q =>
                cases es with
                | nil => exact e_ceq (pe_cmpR (op_eqD g.r0.units) (okE a c X g l h) (pe_lst pa_nil) rfl)
                | cons _ _ => exact ff h
              | _ => exact ff h
    | _ => exact ff h
  | .opop i, c, X, g, e, h => by
    cases e with
    | Call fn xs ks p =>
      cases fn with
      | Attribute v m ap =>
        cases xs with
        | cons _ _ => cases ks <;> exact ff h
        | nil =>
          cases ks with
          | cons _ _ => exact ff h
          | nil =>
            obtain ⟨h, h3⟩ := an (show (chkVar c i v && isNm "pop" m && (ap.endLine == p.line)) = true from h)
            obtain ⟨h1, h2⟩ := an h
            have e : m = Str.ofString "pop" := of_decide_eq_true h2
            subst e
            exact e_opop (pe_bm0 PySem.F.plainAttrs_list PySem.F.slot_list_pop PySem.F.type_list_pop mt_pop (var_pe g h1) (attr_plain (var_attr h1)) h3)
      | _ => cases xs <;> cases ks <;> exact ff h
    | _ => exact ff h
  | .cpop o, c, X, g, e, h => by
    cases e with
    | Call fn xs ks p =>
      cases fn with
      | Attribute v m ap =>
        cases xs with
        | cons _ _ => cases ks <;> exact ff h
        | nil =>
          cases ks with
          | cons _ _ => exact ff h
          | nil =>
            obtain ⟨h, h4⟩ := an (show (chkE c o v && attrOk v && isNm "pop" m && (ap.endLine == p.line)) = true from h)
            obtain ⟨h, h3⟩ := an h
            obtain ⟨h1, h2⟩ := an h
            have e : m = Str.ofString "pop" := of_decide_eq_true h3
            subst e
            exact e_cpop (pe_bm0 PySem.F.plainAttrs_list PySem.F.slot_list_pop PySem.F.type_list_pop mt_pop (okE o _ _ g v h1) (attr_plain h2) h4)
      | _ => cases xs <;> cases ks <;> exact ff h
    | _ => exact ff h
  | .cpopA o k, c, X, g, e, h => by
    cases e with
    | Call fn xs ks p =>
      cases fn with
      | Attribute v m ap =>
        cases xs with
        | nil => cases ks <;> exact ff h
        | cons x xs =>
          cases xs with
          | cons _ _ => cases ks <;> exact ff h
          | nil =>
            cases ks with
            | cons _ _ => exact ff h
            | nil =>
              obtain ⟨h, h6⟩ := an (show (chkE c o v && attrOk v && isNm "pop" m && (ap.endLine == p.line) && chkE c k x && notStar x) = true from h)
              obtain ⟨h, h5⟩ := an h
              obtain ⟨h, h4⟩ := an h
              obtain ⟨h, h3⟩ := an h
              obtain ⟨h1, h2⟩ := an h
              have e : m = Str.ofString "pop" := of_decide_eq_true h3
              subst e
              exact e_cpopA (pe_bm PySem.F.plainAttrs_list PySem.F.slot_list_pop PySem.F.type_list_pop mt_popAt (okE o _ _ g v h1) (pa_cons (okE k _ _ g x h5) pa_nil (star_cons h6)) (attr_plain h2) (few1 h6) h4 (star_cons h6) rfl)
      | _ => cases xs <;> cases ks <;> first | exact ff h | (rename_i q _; cases q <;> exact ff h)
    | _ => exact ff h
  | .indx o k, c, X, g, e, h => by
    cases e with
    | Call fn xs ks p =>
      cases fn with
      | Attribute v m ap =>
        cases xs with
        | nil => cases ks <;> exact ff h
        | cons x xs =>
          cases xs with
          | cons _ _ => cases ks <;> exact ff h
          | nil =>
            cases ks with
            | cons _ _ => exact ff h
            | nil =>
              obtain ⟨h, h6⟩ := an (show (chkE c o v && attrOk v && isNm "index" m && (ap.endLine == p.line) && chkE c k x && notStar x) = true from h)
              obtain ⟨h, h5⟩ := an h
              obtain ⟨h, h4⟩ := an h
              obtain ⟨h, h3⟩ := an h
              obtain ⟨h1, h2⟩ := an h
              have e : m = Str.ofString "index" := of_decide_eq_true h3
              subst e
              exact e_indx g.r0 (pe_bm PySem.F.plainAttrs_list PySem.F.slot_list_index PySem.F.type_list_index (mt_indexD (by have := g.r0.un; omega)) (okE o _ _ g v h1) (pa_cons (okE k _ _ g x h5) pa_nil (star_cons h6)) (attr_plain h2) (few1 h6) h4 (star_cons h6) rfl)
      | _ => cases xs <;> cases ks <;> first | exact ff h | (rename_i q _; cases q <;> exact ff h)
    | _ => exact ff h
  | .mxo kk a b, c, X, g, e, h => by
    cases e with
    | Call fn xs ks p =>
      cases xs with
      | nil => exact ff h
      | cons x xs =>
        cases xs with
        | cons _ _ => exact ff h
        | nil =>
          cases ks with
          | nil => exact ff h
          | cons kw ks =>
            obtain ⟨nm, v, kp⟩ := kw
            cases ks with
            | cons _ _ => cases nm <;> exact ff h
            | nil =>
              cases nm with
              | none => exact ff h
              | some nm =>
                obtain ⟨h, h5⟩ := an (show (chkG c (if kk = true then "max" else "min") fn && chkE c a x && notStar x && isNm "default" nm && chkE c b v) = true from h)
                obtain ⟨h, h4⟩ := an h
                obtain ⟨h, h3⟩ := an h
                obtain ⟨h1, h2⟩ := an h
                have e : nm = Str.ofString "default" := of_decide_eq_true h4
                subst e
                obtain ⟨q, rfl, hg, hp⟩ := chkG_inv g h1
                obtain ⟨p1, _, p3⟩ := plainNm_inv hp
                cases kk with
                | true =>
                  refine pe_weak (e_mxo (pe_callBK (c_maxo g.calm g.r0) hg (g.blt _ (by decide)) (by decide +kernel) (pa_cons (okE a _ _ g x h2) pa_nil (star_cons h3)) (pk_cons (okE b _ _ g v h5) pk_nil) p3 p1 (by rw [star_cons h3]; rfl) (any1 h3))) fun σ H Q q => ?_
                  obtain ⟨B, F, ρ, C, P, R, m, k⟩ := q
                  exact ⟨B, F, ρ, C, P, R, m, k⟩
                | false =>
                  refine pe_weak (e_mxo (pe_callBK (c_mino g.calm g.r0) hg (g.blt _ (by decide)) (by decide +kernel) (pa_cons (okE a _ _ g x h2) pa_nil (star_cons h3)) (pk_cons (okE b _ _ g v h5) pk_nil) p3 p1 (by rw [star_cons h3]; rfl) (any1 h3))) fun σ H Q q => ?_
                  obtain ⟨B, F, ρ, C, P, R, m, k⟩ := q
                  exact ⟨B, F, ρ, C, P, R, m, k⟩
    | _ => exact ff h
  | .gget x kvs a, c, X, g, e, h => by
    cases e with
    | Call fn xs ks p =>
      cases fn with
      | Attribute v m ap =>
        cases v with
        | Name y yp =>
          cases xs with
          | nil => cases ks <;> exact ff h
          | cons e xs =>
            cases xs with
            | cons _ _ => cases ks <;> exact ff h
            | nil =>
              cases ks with
              | cons _ _ => exact ff h
              | nil =>
                obtain ⟨h, h8⟩ := an (show (isNm x y && glB c.sc y && plainNm y && c.dcts.contains (x, kvs) && isNm "get" m && (ap.endLine == p.line) && chkE c a e && notStar e) = true from h)
                obtain ⟨h, h7⟩ := an h
                obtain ⟨h, h6⟩ := an h
                obtain ⟨h, h5⟩ := an h
                obtain ⟨h, h4⟩ := an h
                obtain ⟨h, h3⟩ := an h
                obtain ⟨h1, h2⟩ := an h
                have e1 : y = Str.ofString x := of_decide_eq_true h1
                have e2 : m = Str.ofString "get" := of_decide_eq_true h5
                subst e1 e2
                obtain ⟨u, hm, d⟩ := g.dct x kvs h4
                exact e_gget (pe_gget (pe_glob (by show X.env.scope.names.lookup _ = _; rw [g.sc]; exact of_decide_eq_true h2) hm rfl (plainNm_inv h3).1) d (okE a _ _ g e h7) ⟨rfl, few1 h8, h6, by rw [star_cons h8]; rfl⟩)
        | _ => cases xs <;> cases ks <;> first | exact ff h | (rename_i q _; cases q <;> exact ff h)
      | _ => cases xs <;> cases ks <;> first | exact ff h | (rename_i q _; cases q <;> exact ff h)
    | _ => exact ff h
  | .upr a, c, X, g, e, h => by
    cases e with
    | Call fn xs ks p =>
      cases fn with
      | Attribute v m ap =>
        cases xs with
        | cons _ _ => cases ks <;> exact ff h
        | nil =>
          cases ks with
          | cons _ _ => exact ff h
          | nil =>
            obtain ⟨h, h4⟩ := an (show (chkE c a v && attrOk v && isNm "upper" m && (ap.endLine == p.line)) = true from h)
            obtain ⟨h, h3⟩ := an h
            obtain ⟨h1, h2⟩ := an h
            have e : m = Str.ofString "upper" := of_decide_eq_true h3
            subst e
            exact e_upr (pe_bm0 PySem.F.plainAttrs_str PySem.F.slot_str_upper PySem.F.type_str_upper mt_upper (okE a _ _ g v h1) (attr_plain h2) h4)
      | _ => cases xs <;> cases ks <;> exact ff h
    | _ => exact ff h
  | .orv a b, c, X, g, e, h => by
    cases e with
    | BoolOp op xs p =>
      cases op with
      | And => cases xs with
        | nil => exact ff h
        | cons _ xs => cases xs with
          | nil => exact ff h
          | cons _ xs => cases xs <;> exact ff h
      | Or =>
        cases xs with
        | nil => exact ff h
        | cons x xs =>
          cases xs with
          | nil => exact ff h
          | cons y xs =>
            cases xs with
            | nil =>
              obtain ⟨h1, h2⟩ := an (show (chkE c a x && chkE c b y) = true from h)
              exact e_orv (pe_orT (okE a _ _ g x h1) (pe_one (okE b _ _ g y h2)))
            | cons z r =>
              obtain ⟨h1, h2⟩ := an (show (chkE c a x && chkE c b (.BoolOp .Or (y :: z :: r) p)) = true from h)
              exact e_orv (pe_orT (okE a _ _ g x h1) (okE b _ _ g (.BoolOp _ (y :: z :: r) p) h2))
    | _ => exact ff h
  | .callv i es, c, X, g, e, h => by
    have hh : (match shCallN e with
      | some (x, q, xs, p) => chkVar c i (.Name x q) && chkEs c es xs && decide (xs ≠ [])
      | none => false) = true := h
    clear h
    split at hh
    · rename_i x q xs p hs
      obtain rfl := shCallN_inv hs
      obtain ⟨h, h3⟩ := an hh
      obtain ⟨h1, h2⟩ := an h
      obtain ⟨v1, v2⟩ := an (show (decide (c.N[i]? = some x) && visB c.sc x && plainNm x) = true from h1)
      obtain ⟨v0, v1⟩ := an v1
      obtain ⟨p1, p2, _⟩ := plainNm_inv v2
      cases xs with
      | nil => exact absurd rfl (of_decide_eq_true h3)
      | cons e r =>
        have hs : notStar e = true := by
          cases es with
          | nil => exact ff h2
          | cons a as => exact (an (an (show (chkE c a e && notStar e && chkEs c as r) = true from h2)).1).2
        have pl : (backTo p (starEach r X.env)).any (·.1) = false := by
          cases es with
          | nil => exact ff h2
          | cons a as => exact chkEs_star (an (show (chkE c a e && notStar e && chkEs c as r) = true from h2)).2
        exact pe_callv g.gd g.room g.xe (by rw [g.hN]; exact of_decide_eq_true v0) (by rw [g.sc]; exact visB_inv v1) g.clo (okEs es c X g (e :: r) h2) p1 p2 (star_cons hs) pl
    · exact ff hh
  | .callc f i mk js es, c, X, g, e, h => by
    have hh : (match shCallN e with
      | some (x, q, .Name y p2 :: xs, p) => isNm f x && glB c.sc x && plainNm x && c.sigs.contains (f, xs.length + 1) && chkVar c i (.Name y p2) && chkEs c es xs &&
        (match c.nst with | some (mk', sc) => decide (mk' = mk) && nstB c sc js | none => false)
      | _ => false) = true := h
    clear h
    split at hh
    · rename_i x q y p2 xs p hs
      obtain rfl := shCallN_inv hs
      obtain ⟨h, h7⟩ := an hh
      obtain ⟨h, h6⟩ := an h
      obtain ⟨h, h5⟩ := an h
      obtain ⟨h, h4⟩ := an h
      obtain ⟨h, h3⟩ := an h
      obtain ⟨h1, h2⟩ := an h
      have e1 : x = Str.ofString f := of_decide_eq_true h1
      subst e1
      split at h7
      · rename_i mk' sc hn
        obtain ⟨m1, m2⟩ := an h7
        have e2 : mk' = mk := of_decide_eq_true m1
        subst e2
        obtain ⟨m2, m4⟩ := an (show ((sc.names.all fun y => !decide (y.2 = .free) || decide (c.sc.names.lookup y.1 = some .cell) || decide (c.sc.names.lookup y.1 = some .free)) && (freeOf sc).all (fun y => decide ((y, NameKind.free) ∈ sc.names)) && decide (js.map (fun j => c.N[j]?) = (freeOf sc).map some)) = true from m2)
        obtain ⟨m2, m3⟩ := an m2
        obtain ⟨n1, n2, n3⟩ := g.ndf _ _ hn
        obtain ⟨fa, fd, ps, hm, kp, hb, Fg⟩ := g.fns f _ h4
        have hg : Gl X (Str.ofString f) := by show X.env.scope.names.lookup _ = _; rw [g.sc]; exact of_decide_eq_true h2
        obtain ⟨v1, v2⟩ := an (show (decide (c.N[i]? = some y) && visB c.sc y && plainNm y) = true from h5)
        obtain ⟨v0, v1⟩ := an v1
        obtain ⟨p1, p3, _⟩ := plainNm_inv v2
        refine pe_callc (E := E0) (mk' := mk') (sc := sc) g.gd g.room Fg hg hm kp hb (by rw [g.hN]; exact of_decide_eq_true v0) (by rw [g.sc]; exact visB_inv v1) n1 n2 n3 (fun y hy e => ?_) (fun y hy => of_decide_eq_true (List.all_eq_true.mp m3 y hy)) (by rw [g.hN]; exact of_decide_eq_true m4) (okEs es c X g xs h6) (plainNm_inv h3).1 p1 p3 (chkEs_star h6)
        have z := List.all_eq_true.mp m2 y hy
        rw [e] at z
        simp only [decide_true, Bool.not_true, Bool.false_or, Bool.or_eq_true, decide_eq_true_eq] at z
        rw [g.sc]
        exact z
      · exact ff h7
    · exact ff hh
  | .fld cls f a, c, X, g, e, h => by
    have hh : (match shAttr e with
      | some (v, m, _) => isNm f m && attrOk v && c.flds.contains (cls, f) && chkE c a v
      | none => false) = true := h
    clear h
    split at hh
    · rename_i v m ap hs
      obtain rfl := shAttr_inv hs
      obtain ⟨h, h4⟩ := an hh
      obtain ⟨h, h3⟩ := an h
      obtain ⟨h1, h2⟩ := an h
      have e1 : m = Str.ofString f := of_decide_eq_true h1
      subst e1
      exact e_fld (g.fld cls f h3) (pe_fld (okE a c X g v h4) (attr_plain h2))
    · exact ff hh
  | .meth cls m a es, c, X, g, e, h => by
    have hh : (match shCallA e with
      | some (v, m', ap, xs, p) => isNm m m' && attrOk v && (ap.endLine == p.line) && decide (xs.length < 25) && c.mths.contains (cls, m, xs.length + 1) && chkE c a v && chkEs c es xs
      | none => false) = true := h
    clear h
    split at hh
    · rename_i v m' ap xs p hs
      obtain rfl := shCallA_inv hs
      obtain ⟨h, h7⟩ := an hh
      obtain ⟨h, h6⟩ := an h
      obtain ⟨h, h5⟩ := an h
      obtain ⟨h, h4⟩ := an h
      obtain ⟨h, h3⟩ := an h
      obtain ⟨h1, h2⟩ := an h
      have e1 : m' = Str.ofString m := of_decide_eq_true h1
      subst e1
      obtain ⟨cad, fa, fd, ps, hn, hc, hm, hb, Fg⟩ := g.mth cls m _ h5
      have ht := meth_ht (m := Str.ofString m) (env := X.env) h7 h2 h3 (of_decide_eq_true h4)
      have ha := okEs es c X g xs h7
      cases xs with
      | nil =>
        cases es with
        | nil => exact e_meth (E := E0) (me := fun ρ C P => P [] ρ C) hn (pe_weak (pe_methG0 (E := E0) (okE a c X g v h6) hc hm Fg g.gd g.room hb pass0 ht) fun σ H Q q => by
            obtain ⟨B, F, ρ, C, P, R, m0, k⟩ := q
            refine ⟨B, F, ρ, C, P, R, m0, fun d ρ' C' F' v' H' s1 R1 r1 p1 => ?_⟩
            obtain ⟨a1, dx, fs, ex, ea, hl, B2, F2, ρ2, C2, P2, R2, m2, k2⟩ := k d ρ' C' F' v' H' s1 R1 r1 p1
            exact ⟨a1, dx, fs, ex, ea, hl, k2 [] ρ2 C2 F2 [] H' (Same.refl _) R2 .nil m2⟩)
        | cons _ _ => exact ff h7
      | cons e r =>
        have hs : notStar e = true := by
          cases es with
          | nil => exact ff h7
          | cons a as => exact (an (an (show (chkE c a e && notStar e && chkEs c as r) = true from h7)).1).2
        have pl : (backTo p (starEach r X.env)).any (·.1) = false := by
          cases es with
          | nil => exact ff h7
          | cons a as => exact chkEs_star (an (show (chkE c a e && notStar e && chkEs c as r) = true from h7)).2
        exact e_meth (E := E0) hn (pe_methG (E := E0) (okE a c X g v h6) hc hm Fg g.gd g.room hb pass0 ha (star_cons hs) pl ht)
    · exact ff hh
  | .make cls es, c, X, g, e, h => by
    have hh : (match shCallN e with
      | some (x, _, xs, _) => isNm cls x && glB c.sc x && plainNm x && c.clss.contains (cls, xs.length) && chkEs c es xs
      | none => false) = true := h
    clear h
    split at hh
    · rename_i x q xs p hs
      obtain rfl := shCallN_inv hs
      obtain ⟨h, h5⟩ := an hh
      obtain ⟨h, h4⟩ := an h
      obtain ⟨h, h3⟩ := an h
      obtain ⟨h1, h2⟩ := an h
      have e1 : x = Str.ofString cls := of_decide_eq_true h1
      subst e1
      obtain ⟨cad, M⟩ := g.mkc cls _ h4
      have hg : Gl X (Str.ofString cls) := by show X.env.scope.names.lookup _ = _; rw [g.sc]; exact of_decide_eq_true h2
      have ha := okEs es c X g xs h5
      cases xs with
      | nil =>
        cases es with
        | nil => exact pe_makeG0 M g.gd hg (plainNm_inv h3).1
        | cons _ _ => exact ff h5
      | cons e r =>
        have hs : notStar e = true := by
          cases es with
          | nil => exact ff h5
          | cons a as => exact (an (an (show (chkE c a e && notStar e && chkEs c as r) = true from h5)).1).2
        have pl : (backTo p (starEach r X.env)).any (·.1) = false := by
          cases es with
          | nil => exact ff h5
          | cons a as => exact chkEs_star (an (show (chkE c a e && notStar e && chkEs c as r) = true from h5)).2
        exact pe_makeG M g.gd hg ha (plainNm_inv h3).1 (star_cons hs) pl
    · exact ff hh
  | .dnt, c, X, g, e, h => by
    have hh : (match shDict0 e with
      | some _ => true
      | none => false) = true := h
    clear h
    split at hh
    · rename_i p hs
      obtain rfl := shDict0_inv hs
      exact e_dnt pe_dnewT
    · exact ff hh
  | .dgt d ks, c, X, g, e, h => by
    have hh : (match shSub e with
      | some (v, s, _) => (match shTup s with
        | some (xs, _) => chkE c d v && chkEs c ks xs
        | none => false)
      | none => false) = true := h
    clear h
    split at hh
    · rename_i v s p hs
      obtain rfl := shSub_inv hs
      split at hh
      · rename_i xs t ht
        obtain ⟨k, q, rfl⟩ := shTup_inv ht
        obtain ⟨h1, h2⟩ := an hh
        have hu : X.A.units + 1 < cLine := by have := g.room.units; omega
        exact e_dgt (pe_dget hu (okE d c X g v h1) (pe_tup (okEs ks c X g xs h2)) (fun o i => rfl))
      · exact ff hh
    · exact ff hh
theorem okT : ∀ (t : T) (c : Cfg) (X : Cx) (_ : Good c G n X) (e : Expr), chkT c t e = true → PT X e (rdT X.K (denT G t))
  | .and a b, c, X, g, e, h => by
    cases e with
    | BoolOp op xs p =>
      cases op with
      | Or => cases xs with
        | nil => exact ff h
        | cons _ xs => cases xs with
          | nil => exact ff h
          | cons _ xs => cases xs <;> exact ff h
      | And =>
        cases xs with
        | nil => exact ff h
        | cons x xs =>
          cases xs with
          | nil => exact ff h
          | cons y xs =>
            cases xs with
            | nil =>
              obtain ⟨h1, h2⟩ := an (show (chkT c a x && chkT c b y) = true from h)
              exact t_and (PW.pt (pw_and (okT a _ _ g x h1) (pw_and1 (okT b _ _ g y h2))))
            | cons z r =>
              obtain ⟨h1, h2⟩ := an (show (chkT c a x && chkT c b (.BoolOp .And (y :: z :: r) p)) = true from h)
              exact t_and (PW.pt (pw_and (okT a _ _ g x h1) (pw_of_pt (okT b _ _ g (.BoolOp _ (y :: z :: r) p) h2))))
    | _ => exact ff h
  | .or a b, c, X, g, e, h => by
    cases e with
    | BoolOp op xs p =>
      cases op with
      | And => cases xs with
        | nil => exact ff h
        | cons _ xs => cases xs with
          | nil => exact ff h
          | cons _ xs => cases xs <;> exact ff h
      | Or =>
        cases xs with
        | nil => exact ff h
        | cons x xs =>
          cases xs with
          | nil => exact ff h
          | cons y xs =>
            cases xs with
            | nil =>
              obtain ⟨h1, h2⟩ := an (show (chkT c a x && chkT c b y) = true from h)
              exact t_or (PW.pt (pw_or (okT a _ _ g x h1) (pw_or1 (okT b _ _ g y h2))))
            | cons z r =>
              obtain ⟨h1, h2⟩ := an (show (chkT c a x && chkT c b (.BoolOp .Or (y :: z :: r) p)) = true from h)
              exact t_or (PW.pt (pw_or (okT a _ _ g x h1) (pw_of_pt (okT b _ _ g (.BoolOp _ (y :: z :: r) p) h2))))
    | _ => exact ff h
  | .not a, c, X, g, e, h => by
    cases e with
    | UnaryOp op x p =>
      cases op with
      | Not => exact t_not (pt_not (okT a _ _ g x h))
      | _ => exact ff h
    | _ => exact ff h
  | .cmp o a b, c, X, g, e, h => by
    cases e with
    | Compare l ops rs p =>
      cases ops with
      | nil => exact ff h
      | cons op ops =>
        cases ops with
        | cons _ _ => exact ff h
        | nil =>
          cases rs with
          | nil => exact ff h
          | cons r rs =>
            cases rs with
            | cons _ _ => exact ff h
            | nil =>
              obtain ⟨h, h4⟩ := an (show (decide (op = copOf o) && chkE c a l && chkE c b r && !behindInMarks op r) = true from h)
              obtain ⟨h, h3⟩ := an h
              obtain ⟨h1, h2⟩ := an h
              have e : op = copOf o := of_decide_eq_true h1
              subst e
              exact t_cmp (pt_cmpR (s_cmp g.r0 o) (okE a _ _ g l h2) (okE b _ _ g r h3) (by simpa using h4))
    | _ => exact ff h
  | .chn o o' a b d, c, X, g, e, h => by
    cases e with
    | Compare l ops rs p =>
      cases ops with
      | nil => exact ff h
      | cons op ops =>
        cases ops with
        | nil => cases rs with
          | nil => exact ff h
          | cons _ rs => cases rs <;> exact ff h
        | cons op' ops =>
          cases ops with
          | cons _ _ => exact ff h
          | nil =>
            cases rs with
            | nil => exact ff h
            | cons m rs =>
              cases rs with
              | nil => exact ff h
              | cons r rs =>
                cases rs with
                | cons _ _ => exact ff h
                | nil =>
                  obtain ⟨h, h6⟩ := an (show (decide (op = copOf o) && decide (op' = copOf o') && chkE c a l && chkE c b m && chkE c d r && !lastMarks [op, op'] [m, r]) = true from h)
                  obtain ⟨h, h5⟩ := an h
                  obtain ⟨h, h4⟩ := an h
                  obtain ⟨h, h3⟩ := an h
                  obtain ⟨h1, h2⟩ := an h
                  have e : op = copOf o := of_decide_eq_true h1
                  have e' : op' = copOf o' := of_decide_eq_true h2
                  subst e e'
                  exact t_chn (pt_chain (s_cmp g.r0 o) (s_cmp g.r0 o') (okE a _ _ g l h3) (okE b _ _ g m h4) (okE d _ _ g r h5) (by simpa using h6))
    | _ => exact ff h
  | .chn3 o o' o'' a b d f, c, X, g, e, h => by
    cases e with
    | Compare l ops rs p =>
      rcases ops with _ | ⟨op, _ | ⟨op', _ | ⟨op'', _ | ⟨_, _⟩⟩⟩⟩ <;> rcases rs with _ | ⟨m, _ | ⟨r, _ | ⟨q, _ | ⟨_, _⟩⟩⟩⟩ <;> first | exact ff h | skip
      obtain ⟨h, h8⟩ := an (show (decide (op = copOf o) && decide (op' = copOf o') && decide (op'' = copOf o'') && chkE c a l && chkE c b m && chkE c d r && chkE c f q && !lastMarks [op, op', op''] [m, r, q]) = true from h)
      obtain ⟨h, h7⟩ := an h
      obtain ⟨h, h6⟩ := an h
      obtain ⟨h, h5⟩ := an h
      obtain ⟨h, h4⟩ := an h
      obtain ⟨h, h3⟩ := an h
      obtain ⟨h1, h2⟩ := an h
      have e : op = copOf o := of_decide_eq_true h1
      have e' : op' = copOf o' := of_decide_eq_true h2
      have e'' : op'' = copOf o'' := of_decide_eq_true h3
      subst e e' e''
      exact t_chn3 (pt_chain3 (s_cmp g.r0 o) (s_cmp g.r0 o') (s_cmp g.r0 o'') (okE a _ _ g l h4) (okE b _ _ g m h5) (okE d _ _ g r h6) (okE f _ _ g q h7) (by simpa using h8))
    | _ => exact ff h
  | .one i, c, X, g, e, h => by
    cases e with
    | Compare l ops rs p =>
      cases ops with
      | nil => exact ff h
      | cons op ops =>
        cases rs with
        | nil => cases ops <;> cases op <;> exact ff h
        | cons r rs =>
          cases ops with
          | cons _ _ => cases op <;> exact ff h
          | nil =>
            cases op <;> first | (cases rs <;> cases r <;> exact ff h) | skip
            cases rs with
            | cons _ _ => cases r <;> first | exact ff h | (rename_i es _; cases es <;> exact ff h)
            | nil =>
              cases r with
              | List es q =>
                cases es with
                | nil => exact t_one (pt_cmpR (op_neD g.r0.units) (var_pe g h) (pe_lst pa_nil) rfl)
                | cons _ _ => exact ff h
              | _ => exact ff h
    | _ => exact ff h
  | .oem i, c, X, g, e, h => by
    cases e with
    | Compare l ops rs p =>
      cases ops with
      | nil => exact ff h
      | cons op ops =>
        cases rs with
        | nil => cases ops <;> cases op <;> exact ff h
        | cons r rs =>
          cases ops with
          | cons _ _ => cases op <;> exact ff h
          | nil =>
            cases op <;> first | (cases rs <;> cases r <;> exact ff h) | skip
            cases rs with
            | cons _ _ => cases r <;> first | exact ff h | (rename_i es _; cases es <;> exact ff h)
            | nil =>
              cases r with
              | List es q =>
                cases es with
                | nil => exact t_oem (pt_cmpR (op_eqD g.r0.units) (var_pe g h) (pe_lst pa_nil) rfl)
                | cons _ _ => exact ff h
              | _ => exact ff h
    | _ => exact ff h
  | .tne a, c, X, g, e, h => by
    cases e with
    | Compare l ops rs p =>
      cases ops with
      | nil => exact ff h
      | cons op ops =>
        cases rs with
        | nil => cases ops <;> cases op <;> exact ff h
        | cons r rs =>
          cases ops with
          | cons _ _ => cases op <;> exact ff h
          | nil =>
            cases op <;> first | (cases rs <;> cases r <;> exact ff h) | skip
            cases rs with
            | cons _ _ => cases r <;> first | exact ff h | (rename_i es _ _; cases es <;> exact ff h)
            | nil =>
              cases r with
              | Tuple es k q =>
                cases es with
                | nil => exact t_tpe (pt_cmpR (op_tpn (by have := g.r0.units; omega)) (okE a c X g l h) (pe_tup pa_nil) rfl)
                | cons _ _ => exact ff h
              | _ => exact ff h
    | _ => exact ff h
  | .teq a, c, X, g, e, h => by
    cases e with
    | Compare l ops rs p =>
      cases ops with
      | nil => exact ff h
      | cons op ops =>
        cases rs with
        | nil => cases ops <;> cases op <;> exact ff h
        | cons r rs =>
          cases ops with
          | cons _ _ => cases op <;> exact ff h
          | nil =>
            cases op <;> first | (cases rs <;> cases r <;> exact ff h) | skip
            cases rs with
            | cons _ _ => cases r <;> first | exact ff h | (rename_i es _ _; cases es <;> exact ff h)
            | nil =>
              cases r with
              | Tuple es k q =>
                cases es with
                | nil => exact t_tpe (pt_cmpR (op_tpe (by have := g.r0.units; omega)) (okE a c X g l h) (pe_tup pa_nil) rfl)
                | cons _ _ => exact ff h
              | _ => exact ff h
    | _ => exact ff h
  | .lne a, c, X, g, e, h => by
    cases e with
    | Compare l ops rs p =>
      cases ops with
      | nil => exact ff h
      | cons op ops =>
        cases rs with
        | nil => cases ops <;> cases op <;> exact ff h
        | cons r rs =>
          cases ops with
          | cons _ _ => cases op <;> exact ff h
          | nil =>
            cases op <;> first | (cases rs <;> cases r <;> exact ff h) | skip
            cases rs with
            | cons _ _ => cases r <;> first | exact ff h | (rename_i es _; cases es <;> exact ff h)
            | nil =>
              cases r with
              | List es q =>
                cases es with
                | nil => exact t_lse (f := (!·)) (pt_cmpR (op_lsn (by have := g.r0.units; omega)) (okE a c X g l h) (pe_lst pa_nil) rfl)
                | cons _ _ => exact ff h
              | _ => exact ff h
    | _ => exact ff h
  | .leq a, c, X, g, e, h => by
    cases e with
    | Compare l ops rs p =>
      cases ops with
      | nil => exact ff h
      | cons op ops =>
        cases rs with
        | nil => cases ops <;> cases op <;> exact ff h
        | cons r rs =>
          cases ops with
          | cons _ _ => cases op <;> exact ff h
          | nil =>
            cases op <;> first | (cases rs <;> cases r <;> exact ff h) | skip
            cases rs with
            | cons _ _ => cases r <;> first | exact ff h | (rename_i es _; cases es <;> exact ff h)
            | nil =>
              cases r with
              | List es q =>
                cases es with
                | nil => exact t_lse (f := id) (pt_cmpR (op_lse (by have := g.r0.units; omega)) (okE a c X g l h) (pe_lst pa_nil) rfl)
                | cons _ _ => exact ff h
              | _ => exact ff h
    | _ => exact ff h
  | .cne a, c, X, g, e, h => by
    cases e with
    | Compare l ops rs p =>
      cases ops with
      | nil => exact ff h
      | cons op ops =>
        cases rs with
        | nil => cases ops <;> cases op <;> exact ff h
        | cons r rs =>
          cases ops with
          | cons _ _ => cases op <;> exact ff h
          | nil =>
            cases op <;> first | (cases rs <;> cases r <;> exact ff h) | skip
            cases rs with
            | cons _ _ => cases r <;> first | exact ff h | (rename_i es _; cases es <;> exact ff h)
            | nil =>
              cases r with
              | List es q =>
                cases es with
                | nil => exact t_cne (pt_cmpR (op_neD g.r0.units) (okE a c X g l h) (pe_lst pa_nil) rfl)
                | cons _ _ => exact ff h
              | _ => exact ff h
    | _ => exact ff h
  | .ceq a, c, X, g, e, h => by
    cases e with
    | Compare l ops rs p =>
      cases ops with
      | nil => exact ff h
      | cons op ops =>
        cases rs with
        | nil => cases ops <;> cases op <;> exact ff h
        | cons r rs =>
          cases ops with
          | cons _ _ => cases op <;> exact ff h
          | nil =>
            cases op <;> first | (cases rs <;> cases r <;> exact ff h) | skip
            cases rs with
            | cons _ _ => cases r <;> first | exact ff h | (rename_i es _; cases es <;> exact ff h)
            | nil =>
              cases r with
              | List es q =>
                cases es with
                | nil => exact t_ceq (pt_cmpR (op_eqD g.r0.units) (okE a c X g l h) (pe_lst pa_nil) rfl)
                | cons _ _ => exact ff h
              | _ => exact ff h
    | _ => exact ff h
  | .val a, c, X, g, e, h => by
    obtain ⟨h1, h2⟩ := an (show (chkE c a e && plainTest e) = true from h)
    exact t_val (okE a _ _ g e h1) (test_plain h2)
  | .din ks d, c, X, g, e, h => by
    have hh : (match shCmp e with
      | some (l, op, r, _) => (match shTup l with
        | some (xs, _) => decide (op = .In) && chkEs c ks xs && chkE c d r && !behindInMarks op r
        | none => false)
      | none => false) = true := h
    clear h
    split at hh
    · rename_i l op r p hs
      obtain rfl := shCmp_inv hs
      split at hh
      · rename_i xs t ht
        obtain ⟨k, q, rfl⟩ := shTup_inv ht
        obtain ⟨h, h4⟩ := an hh
        obtain ⟨h, h3⟩ := an h
        obtain ⟨h1, h2⟩ := an h
        have e1 : op = .In := of_decide_eq_true h1
        subst e1
        have hu : X.A.units + 1 < cLine := by have := g.room.units; omega
        have hm : behindInMarks .In r = false := by simpa using h4
        exact t_din (neg := false) (pt_cmp (pc_din hu (pe_tup (okEs ks c X g xs h2)) (okE d c X g r h3)) hm)
      · exact ff hh
    · exact ff hh
  | .dnin ks d, c, X, g, e, h => by
    have hh : (match shCmp e with
      | some (l, op, r, _) => (match shTup l with
        | some (xs, _) => decide (op = .NotIn) && chkEs c ks xs && chkE c d r && !behindInMarks op r
        | none => false)
      | none => false) = true := h
    clear h
    split at hh
    · rename_i l op r p hs
      obtain rfl := shCmp_inv hs
      split at hh
      · rename_i xs t ht
        obtain ⟨k, q, rfl⟩ := shTup_inv ht
        obtain ⟨h, h4⟩ := an hh
        obtain ⟨h, h3⟩ := an h
        obtain ⟨h1, h2⟩ := an h
        have e1 : op = .NotIn := of_decide_eq_true h1
        subst e1
        have hu : X.A.units + 1 < cLine := by have := g.room.units; omega
        have hm : behindInMarks .NotIn r = false := by simpa using h4
        exact t_din (neg := true) (pt_cmp (pc_dnotin hu (pe_tup (okEs ks c X g xs h2)) (okE d c X g r h3)) hm)
      · exact ff hh
    · exact ff hh
theorem okEs : ∀ (as : Es) (c : Cfg) (X : Cx) (_ : Good c G n X) (es : List Expr), chkEs c as es = true → PA X es (rdA X.K (denEs G as))
  | .nil, c, X, g, [], _ => a_nil
  | .nil, c, X, g, _ :: _, h => ff h
  | .cons _ _, c, X, g, [], h => ff h
  | .cons a as, c, X, g, e :: es, h => by
    obtain ⟨h, h3⟩ := an (show (chkE c a e && notStar e && chkEs c as es) = true from h)
    obtain ⟨h1, h2⟩ := an h
    exact a_cons (pa_cons (okE a _ _ g e h1) (okEs as _ _ g es h3) (star_cons h2))
theorem okPs : ∀ (as : Es) (c : Cfg) (X : Cx) (_ : Good c G n X) (ks : List String) (keys : List (Option Expr)) (vals : List Expr) (p : Pos), chkKs ks keys = true → chkEs c as vals = true → keys.length = vals.length → PPs X p keys vals (pairsT X.K ks (msOf G as))
  | .nil, c, X, g, ks, keys, [], p, h1, h2, hl => by
    have := List.length_eq_zero_iff.mp hl
    subst this
    cases ks with
    | nil => exact pps_nil
    | cons _ _ => exact ff h1
  | .nil, c, X, g, ks, keys, _ :: _, p, h1, h2, hl => ff h2
  | .cons a as, c, X, g, ks, keys, [], p, h1, h2, hl => ff h2
  | .cons a as, c, X, g, ks, [], e :: es, p, h1, h2, hl => by cases hl
  | .cons a as, c, X, g, [], k :: keys, e :: es, p, h1, h2, hl => ff h1
  | .cons a as, c, X, g, k0 :: ks, none :: keys, e :: es, p, h1, h2, hl => ff h1
  | .cons a as, c, X, g, k0 :: ks, some k :: keys, e :: es, p, h1, h2, hl => by
    obtain ⟨h, h4⟩ := an (show (chkE c a e && notStar e && chkEs c as es) = true from h2)
    obtain ⟨h3, _⟩ := an h
    cases k with
    | Constant w j p2 =>
      cases w with
      | str x =>
        obtain ⟨q1, q2⟩ := an (show (isNm k0 x && chkKs ks keys) = true from h1)
        have e1 : x = Str.ofString k0 := of_decide_eq_true q1
        subst e1
        exact pps_cons pe_str (okE a _ _ g e h3) (okPs as c X g ks keys es p q2 h4 (Nat.succ.inj hl))
      | _ => exact ff h1
    | _ => exact ff h1
theorem okO : ∀ (a : O) (c : Cfg) (X : Cx) (_ : Good c G n X) (e : Option Expr), chkO c a e = true → PO X e (rdO X.K (denO G a))
  | .no, c, X, g, none, _ => o_no
  | .no, c, X, g, some _, h => ff h
  | .yes _, c, X, g, none, h => ff h
  | .yes a, c, X, g, some e, h => o_yes (okE a _ _ g e h)
theorem okC : ∀ (a : Oc) (c : Cfg) (X : Cx) (_ : Good c G n X) (e : List Expr), chkC c a e = true → PTs X e (rdT X.K (denC G a))
  | .no, c, X, g, [], _ => c_no
  | .no, c, X, g, _ :: _, h => ff h
  | .yes _, c, X, g, [], h => ff h
  | .yes _, c, X, g, _ :: _ :: _, h => ff h
  | .yes a, c, X, g, [e], h => c_yes (okT a _ _ g e h)
theorem okL : ∀ (l : L) (c : Cfg) (X : Cx) (_ : Good c G n X) (e : Expr), chkL c l e = true → PE X e (rdL X.K (denL G l)) ∧ SwOk X c e (rdL X.K (denL G l))
  | .lit es, c, X, g, e, h => by
    cases e with
    | List xs p => exact ⟨l_lit (pe_lst (okEs es _ _ g xs h)), swok_no rfl⟩
    | _ => exact ff h
  | .comp own elt tg it t, c, X, g, e, h => by
    cases e with
    | ListComp el gs scope p =>
      cases gs with
      | nil => exact ff h
      | cons ge gs =>
        obtain ⟨ta, ie, ifs, as⟩ := ge
        cases gs with
        | cons _ _ => cases as with
          | ofNat k => cases k <;> exact ff h
          | negSucc _ => exact ff h
        | nil =>
          cases as with
          | negSucc _ => exact ff h
          | ofNat k =>
           cases k with
           | succ _ => exact ff h
           | zero =>
            have h : (chkI c it ta ie && blkC c.N c.sc scope (own.filterMap fun i => c.N[i]?.map fun x => (x, i)) && decide ((own.filterMap fun i => c.N[i]?.map fun x => (x, i)).map (·.2) = own) && (tgSlots tg).all (fun i => own.contains i) &&
              chkTg { c with sc := relS scope c.sc, blk := some scope, nst := none } tg ta && chkC { c with sc := relS scope c.sc, blk := some scope, nst := none } t ifs && chkE { c with sc := relS scope c.sc, blk := some scope, nst := none } elt el && notSet ie) = true := h
            generalize hnm : (own.filterMap fun i => c.N[i]?.map fun x => (x, i)) = nm at h
            obtain ⟨h, h8⟩ := an h
            obtain ⟨h, h7⟩ := an h
            obtain ⟨h, h6⟩ := an h
            obtain ⟨h, h5⟩ := an h
            obtain ⟨h, h4⟩ := an h
            obtain ⟨h, h3⟩ := an h
            obtain ⟨h1, h2⟩ := an h
            have e3 : nm.map (·.2) = own := of_decide_eq_true h3
            have bk : BlkOk X.N X.env.scope scope nm := by rw [g.hN, g.sc]; exact blkOk_by h2
            have hsub : ∀ i ∈ tgSlots tg, i ∈ nm.map (·.2) := fun i hi => by
              rw [e3]
              have := List.all_eq_true.mp h4 i hi
              simpa using this
            have hI := okI it _ _ g ta ie h1
            have hT := fun (s : Shared) (H : Hp) (C : Addr) (cl : List (Str × Addr)) (fp : List Addr) => okTg (g.blk bk.kind s H C cl fp) tg ta h5
            have hC := fun (s : Shared) (H : Hp) (C : Addr) (cl : List (Str × Addr)) (fp : List Addr) => okC t _ _ (g.blk bk.kind s H C cl fp) ifs h6
            have hE := fun (s : Shared) (H : Hp) (C : Addr) (cl : List (Str × Addr)) (fp : List Addr) => okE elt _ _ (g.blk bk.kind s H C cl fp) el h7
            have nd : X.N.Nodup := by rw [g.hN]; exact g.nd
            have key : ∀ (σ : L2.St) (H : Hp) (Q : VK), rdL X.K (denL G (.comp own elt tg it t)) σ H Q → tLc (rdI X.K (denI G it)) (rg X.K tg) (rdT X.K (denC G t)) (rd X.K (denE G elt)) (nm.map (·.2)) σ H Q := fun σ H Q q => by
              refine te_comp hsub σ H Q ?_
              rw [e3]
              exact q
            refine ⟨pe_weak (pe_lc g.calm nd hI bk hT hC hE (notSet_inv h8)) key, fun i x px sp hi hs => ?_⟩
            obtain ⟨hs, s3⟩ := an (show (decide (c.sc.names.lookup x = some .local) && (px.line == p.line) && !(scope.names.any fun (n, k) => n == x && (k == .local || k == .cell))) = true from hs)
            obtain ⟨s1, s2⟩ := an hs
            have lx : X.env.scope.names.lookup x = some .local := by rw [g.sc]; exact of_decide_eq_true s1
            exact ps_weak (ps_setLc g.calm nd (by rw [g.hN]; exact hi) lx (sw_any (by rw [g.sc]; exact g.kind) lx s2 (by simpa using s3)) hI bk hT hC hE (notSet_inv h8)) fun D σ H q => key σ H _ q
    | _ => exact ff h
  | .compc own elt tg it t, c, X, g, e, h => by
    cases e with
    | ListComp el gs scope p =>
      cases gs with
      | nil => exact ff h
      | cons ge gs =>
        obtain ⟨ta, ie, ifs, as⟩ := ge
        cases gs with
        | cons _ _ => cases as with
          | ofNat k => cases k <;> exact ff h
          | negSucc _ => exact ff h
        | nil =>
          cases as with
          | negSucc _ => exact ff h
          | ofNat k =>
           cases k with
           | succ _ => exact ff h
           | zero =>
            have h : (chkE c it ie && blkC c.N c.sc scope (own.filterMap fun i => c.N[i]?.map fun x => (x, i)) && decide ((own.filterMap fun i => c.N[i]?.map fun x => (x, i)).map (·.2) = own) && (tgSlots tg).all (fun i => own.contains i) &&
              chkTg { c with sc := relS scope c.sc, blk := some scope, nst := none } tg ta && chkC { c with sc := relS scope c.sc, blk := some scope, nst := none } t ifs && chkE { c with sc := relS scope c.sc, blk := some scope, nst := none } elt el && notSet ie) = true := h
            generalize hnm : (own.filterMap fun i => c.N[i]?.map fun x => (x, i)) = nm at h
            obtain ⟨h, h8⟩ := an h
            obtain ⟨h, h7⟩ := an h
            obtain ⟨h, h6⟩ := an h
            obtain ⟨h, h5⟩ := an h
            obtain ⟨h, h4⟩ := an h
            obtain ⟨h, h3⟩ := an h
            obtain ⟨h1, h2⟩ := an h
            have e3 : nm.map (·.2) = own := of_decide_eq_true h3
            have bk : BlkOk X.N X.env.scope scope nm := by rw [g.hN, g.sc]; exact blkOk_by h2
            have hsub : ∀ i ∈ tgSlots tg, i ∈ nm.map (·.2) := fun i hi => by
              rw [e3]
              have := List.all_eq_true.mp h4 i hi
              simpa using this
            have hI : PI X ta ie (iSeq X.K (rd X.K (denE G it))) := pi_seq (okE it _ _ g ie h1)
            have hT := fun (s : Shared) (H : Hp) (C : Addr) (cl : List (Str × Addr)) (fp : List Addr) => okTg (g.blk bk.kind s H C cl fp) tg ta h5
            have hC := fun (s : Shared) (H : Hp) (C : Addr) (cl : List (Str × Addr)) (fp : List Addr) => okC t _ _ (g.blk bk.kind s H C cl fp) ifs h6
            have hE := fun (s : Shared) (H : Hp) (C : Addr) (cl : List (Str × Addr)) (fp : List Addr) => okE elt _ _ (g.blk bk.kind s H C cl fp) el h7
            have nd : X.N.Nodup := by rw [g.hN]; exact g.nd
            have key : ∀ (σ : L2.St) (H : Hp) (Q : VK), rdL X.K (denL G (.compc own elt tg it t)) σ H Q → tLc (iSeq X.K (rd X.K (denE G it))) (rg X.K tg) (rdT X.K (denC G t)) (rd X.K (denE G elt)) (nm.map (·.2)) σ H Q := fun σ H Q q => by
              refine te_compc hsub σ H Q ?_
              rw [e3]
              exact q
            refine ⟨pe_weak (pe_lc g.calm nd hI bk hT hC hE (notSet_inv h8)) key, fun i x px sp hi hs => ?_⟩
            obtain ⟨hs, s3⟩ := an (show (decide (c.sc.names.lookup x = some .local) && (px.line == p.line) && !(scope.names.any fun (n, k) => n == x && (k == .local || k == .cell))) = true from hs)
            obtain ⟨s1, s2⟩ := an hs
            have lx : X.env.scope.names.lookup x = some .local := by rw [g.sc]; exact of_decide_eq_true s1
            exact ps_weak (ps_setLc g.calm nd (by rw [g.hN]; exact hi) lx (sw_any (by rw [g.sc]; exact g.kind) lx s2 (by simpa using s3)) hI bk hT hC hE (notSet_inv h8)) fun D σ H q => key σ H _ q
    | _ => exact ff h
  | .list a, c, X, g, e, h => by
    cases e with
    | Call fn xs ks p =>
      cases xs with
      | nil => exact ff h
      | cons x xs =>
        cases xs with
        | cons _ _ => exact ff h
        | nil =>
          cases ks with
          | cons _ _ => exact ff h
          | nil =>
            obtain ⟨h, h3⟩ := an (show (chkG c "list" fn && chkE c a x && notStar x) = true from h)
            obtain ⟨h1, h2⟩ := an h
            obtain ⟨q, rfl, hg, hp⟩ := chkG_inv g h1
            obtain ⟨p1, _, p3⟩ := plainNm_inv hp
            refine ⟨pe_weak (l_call1 (pe_callTy c_list hg (g.blt _ (by decide)) (by decide +kernel) (pa_cons (okE a _ _ g x h2) pa_nil (star_cons h3)) p3 p1 (star_cons h3) rfl)) fun σ H Q q => ?_, swok_no rfl⟩
            obtain ⟨B, F, ρ, C, P, R, m, k⟩ := q
            refine ⟨B, F, ρ, C, P, R, ?_, k⟩
            exact m
    | _ => exact ff h
  | .srt a, c, X, g, e, h => by
    cases e with
    | Call fn xs ks p =>
      cases xs with
      | nil => exact ff h
      | cons x xs =>
        cases xs with
        | cons _ _ => exact ff h
        | nil =>
          cases ks with
          | cons _ _ => exact ff h
          | nil =>
            obtain ⟨h, h3⟩ := an (show (chkG c "sorted" fn && chkE c a x && notStar x) = true from h)
            obtain ⟨h1, h2⟩ := an h
            obtain ⟨q, rfl, hg, hp⟩ := chkG_inv g h1
            obtain ⟨p1, _, p3⟩ := plainNm_inv hp
            refine ⟨pe_weak (l_call1 (pe_callB c_sorted hg (g.blt _ (by decide)) (by decide +kernel) (pa_cons (okE a _ _ g x h2) pa_nil (star_cons h3)) p3 p1 (star_cons h3) rfl)) fun σ H Q q => ?_, swok_no rfl⟩
            obtain ⟨B, F, ρ, C, P, R, m, k⟩ := q
            exact ⟨B, F, ρ, C, P, R, m, k⟩
    | _ => exact ff h
  | .srr a, c, X, g, e, h => by
    cases e with
    | Call fn xs ks p =>
      cases xs with
      | nil => exact ff h
      | cons x xs =>
        cases xs with
        | cons _ _ => exact ff h
        | nil =>
          cases ks with
          | nil => exact ff h
          | cons kw ks =>
            obtain ⟨nm, v, kp⟩ := kw
            cases ks with
            | cons _ _ => cases nm <;> cases v <;> first | exact ff h | (rename_i k _ _; cases k <;> exact ff h)
            | nil =>
              cases nm with
              | none => exact ff h
              | some nm =>
                cases v with
                | Constant k j kp2 =>
                  cases k with
                  | bool bb =>
                    obtain ⟨h, h5⟩ := an (show (chkG c "sorted" fn && chkE c a x && notStar x && isNm "reverse" nm && bb) = true from h)
                    obtain ⟨h, h4⟩ := an h
                    obtain ⟨h, h3⟩ := an h
                    obtain ⟨h1, h2⟩ := an h
                    have e1 : nm = Str.ofString "reverse" := of_decide_eq_true h4
                    subst e1 h5
                    obtain ⟨q, rfl, hg, hp⟩ := chkG_inv g h1
                    obtain ⟨p1, _, p3⟩ := plainNm_inv hp
                    refine ⟨pe_weak (l_callK (pe_callBK c_sortedR hg (g.blt _ (by decide)) (by decide +kernel) (pa_cons (okE a _ _ g x h2) pa_nil (star_cons h3)) (pk_cons pe_bl pk_nil) p3 p1 (by rw [star_cons h3]; rfl) (by rw [star_cons h3]; rfl) rfl rfl rfl)) fun σ H Q q => ?_, swok_no rfl⟩
                    obtain ⟨B, F, ρ, C, P, R, m, k⟩ := q
                    exact ⟨B, F, ρ, C, P, R, m, k⟩
                  | _ => exact ff h
                | _ => exact ff h
    | _ => exact ff h
  | .ls2 a, c, X, g, e, h => by
    cases e with
    | Subscript v s p =>
      cases s with
      | Slice l u st p2 =>
        cases l with
        | none => exact ff h
        | some l =>
          cases l with
          | UnaryOp op x p3 =>
            cases op with
            | USub =>
              cases x with
              | Constant k j p4 =>
                cases k with
                | int i' =>
                  cases u with
                  | some _ => exact ff h
                  | none =>
                    cases st with
                    | none => exact ff h
                    | some q =>
                      cases q with
                      | UnaryOp op x p3 =>
                        cases op with
                        | USub =>
                          cases x with
                          | Constant k j p4 =>
                            cases k with
                            | int i =>
                              obtain ⟨h, h3⟩ := an (show (chkE c a v && decide (i' = 2) && decide (i = 1)) = true from h)
                              obtain ⟨h1, h2⟩ := an h
                              have e : i = 1 := of_decide_eq_true h3
                              have e' : i' = 2 := of_decide_eq_true h2
                              subst e e'
                              exact ⟨l_ls2 (pe_rev2 (okE a _ _ g v h1)), swok_no rfl⟩
                            | _ => exact ff h
                          | _ => exact ff h
                        | _ => exact ff h
                      | _ => exact ff h
                | _ => exact ff h
              | _ => exact ff h
            | _ => exact ff h
          | _ => exact ff h
      | _ => exact ff h
    | _ => exact ff h
  | .lrv a, c, X, g, e, h => by
    cases e with
    | Subscript v s p =>
      cases s with
      | Slice l u st p2 =>
        cases l with
        | some _ => exact ff h
        | none =>
          cases u with
          | some _ => exact ff h
          | none =>
            cases st with
            | none => exact ff h
            | some q =>
              cases q with
              | UnaryOp op x p3 =>
                cases op with
                | USub =>
                  cases x with
                  | Constant k j p4 =>
                    cases k with
                    | int i =>
                      obtain ⟨h1, h2⟩ := an (show (chkE c a v && decide (i = 1)) = true from h)
                      have e : i = 1 := of_decide_eq_true h2
                      subst e
                      exact ⟨l_lrv (pe_revL (okE a _ _ g v h1)), swok_no rfl⟩
                    | _ => exact ff h
                  | _ => exact ff h
                | _ => exact ff h
              | _ => exact ff h
      | _ => exact ff h
    | _ => exact ff h
  | .lrg1 a, c, X, g, e, h => by
    cases e with
    | Call fn xs ks p =>
      cases xs with
      | nil => exact ff h
      | cons u xs =>
        cases xs with
        | cons _ _ => cases u with
          | Call fm ys ls p2 => cases ys with
            | nil => exact ff h
            | cons _ ys => cases ys with
              | nil => cases ls <;> exact ff h
              | cons _ ys => exact ff h
          | _ => exact ff h
        | nil =>
          cases u with
          | Call fm ys ls p2 =>
            cases ys with
            | nil => exact ff h
            | cons x ys =>
              cases ys with
              | cons _ _ => exact ff h
              | nil =>
                cases ls with
                | cons _ _ => exact ff h
                | nil =>
                  cases ks with
                  | cons _ _ => exact ff h
                  | nil =>
                    obtain ⟨h, h4⟩ := an (show (chkG c "list" fn && chkG c "range" fm && chkE c a x && notStar x) = true from h)
                    obtain ⟨h, h3⟩ := an h
                    obtain ⟨h1, h2⟩ := an h
                    obtain ⟨q, rfl, hg, hp⟩ := chkG_inv g h1
                    obtain ⟨q2, rfl, hg2, hp2⟩ := chkG_inv g h2
                    exact ⟨l_lrg1 (pe_listRg g.calm hg (g.blt _ (by decide)) (prg_1 hg2 (g.blt _ (by decide)) (okE a _ _ g x h3) (star_cons h4)) rfl), swok_no rfl⟩
          | _ => exact ff h
    | _ => exact ff h
  | .lrg2 a b, c, X, g, e, h => by
    cases e with
    | Call fn xs ks p =>
      cases xs with
      | nil => exact ff h
      | cons u xs =>
        cases xs with
        | cons _ _ => cases u with
          | Call fm ys ls p2 => cases ys with
            | nil => exact ff h
            | cons _ ys => cases ys with
              | nil => exact ff h
              | cons _ ys => cases ys with
                | nil => cases ls <;> exact ff h
                | cons _ _ => exact ff h
          | _ => exact ff h
        | nil =>
          cases u with
          | Call fm ys ls p2 =>
            cases ys with
            | nil => exact ff h
            | cons x ys =>
              cases ys with
              | nil => exact ff h
              | cons y ys =>
                cases ys with
                | cons _ _ => exact ff h
                | nil =>
                  cases ls with
                  | cons _ _ => exact ff h
                  | nil =>
                    cases ks with
                    | cons _ _ => exact ff h
                    | nil =>
                      obtain ⟨h, h6⟩ := an (show (chkG c "list" fn && chkG c "range" fm && chkE c a x && notStar x && chkE c b y && notStar y) = true from h)
                      obtain ⟨h, h5⟩ := an h
                      obtain ⟨h, h4⟩ := an h
                      obtain ⟨h, h3⟩ := an h
                      obtain ⟨h1, h2⟩ := an h
                      obtain ⟨q, rfl, hg, hp⟩ := chkG_inv g h1
                      obtain ⟨q2, rfl, hg2, hp2⟩ := chkG_inv g h2
                      exact ⟨l_lrg2 (pe_listRg g.calm hg (g.blt _ (by decide)) (prg_2 hg2 (g.blt _ (by decide)) (okE a _ _ g x h3) (okE b _ _ g y h5) (star_cons h4) (star_cons h6) (any1 h6)) rfl), swok_no rfl⟩
          | _ => exact ff h
    | _ => exact ff h
  | .rep a b, c, X, g, e, h => by
    cases e with
    | BinOp l op r p =>
      cases op with
      | Mult =>
        obtain ⟨h1, h2⟩ := an (show (chkE c a l && chkE c b r) = true from h)
        exact ⟨l_rep (pe_op op_rep (okE a _ _ g l h1) (okE b _ _ g r h2)), swok_no rfl⟩
      | _ => exact ff h
    | _ => exact ff h
  | .cat a b, c, X, g, e, h => by
    cases e with
    | BinOp l op r p =>
      cases op with
      | Add =>
        obtain ⟨h1, h2⟩ := an (show (chkE c a l && chkE c b r) = true from h)
        exact ⟨l_cat (pe_op op_cat (okE a _ _ g l h1) (okE b _ _ g r h2)), swok_no rfl⟩
      | _ => exact ff h
    | _ => exact ff h
  | .cato a i, c, X, g, e, h => by
    cases e with
    | BinOp l op r p =>
      cases op with
      | Add =>
        obtain ⟨h1, h2⟩ := an (show (chkE c a l && chkVar c i r) = true from h)
        exact ⟨l_cato (pe_op op_cat (okE a _ _ g l h1) (var_pe g h2)), swok_no rfl⟩
      | _ => exact ff h
    | _ => exact ff h
  | .rvd a, c, X, g, e, h => by
    cases e with
    | Call fn xs ks p =>
      cases xs with
      | nil => exact ff h
      | cons u xs =>
        cases xs with
        | cons _ _ =>
          cases u with
          | Call fm ys ls p2 =>
            cases ys with
            | nil => exact ff h
            | cons y ys =>
              cases ys with
              | nil => cases ls <;> exact ff h
              | cons _ _ => exact ff h
          | _ => exact ff h
        | nil =>
          cases u with
          | Call fm ys ls p2 =>
            cases ys with
            | nil => exact ff h
            | cons x ys =>
              cases ys with
              | cons _ _ => exact ff h
              | nil =>
                cases ls with
                | cons _ _ => exact ff h
                | nil =>
                  cases ks with
                  | cons _ _ => exact ff h
                  | nil =>
                    obtain ⟨h, h4⟩ := an (show (chkG c "list" fn && chkG c "reversed" fm && chkE c a x && notStar x) = true from h)
                    obtain ⟨h, h3⟩ := an h
                    obtain ⟨h1, h2⟩ := an h
                    obtain ⟨q, rfl, hg, hp⟩ := chkG_inv g h1
                    obtain ⟨q2, rfl, hg2, hp2⟩ := chkG_inv g h2
                    exact ⟨l_rvd (N1.pe_lstRev g.calm hg (g.blt _ (by decide)) hg2 (g.blt _ (by decide)) (okE a _ _ g x h3) (star_cons h4) rfl), swok_no rfl⟩
          | _ => exact ff h
    | _ => exact ff h
  | .odd a, c, X, g, e, h => by
    have hh : (match shOdd e with
      | some v => chkE c a v
      | none => false) = true := h
    clear h
    split at hh
    · rename_i v hs
      obtain ⟨k, q1, k', p1, p3, pos, rfl⟩ := shOdd_inv hs
      exact ⟨l_odd (pe_odd (okE a c X g v hh)), swok_no rfl⟩
    · exact ff hh
theorem okI : ∀ (i : I) (c : Cfg) (X : Cx) (_ : Good c G n X) (t e : Expr), chkI c i t e = true → PI X t e (rdI X.K (denI G i))
  | .seq a, c, X, g, t, e, h => i_seq (pi_seq (okE a _ _ g e h))
  | .sgn a, c, X, g, t, e, h => i_sgn (pi_str (okE a _ _ g e h))
  | .rng1 a, c, X, g, t, e, h => by
    cases e with
    | Call fn xs ks p =>
      cases xs with
      | nil => exact ff h
      | cons x xs =>
        cases xs with
        | cons _ _ => exact ff h
        | nil =>
          cases ks with
          | cons _ _ => exact ff h
          | nil =>
            obtain ⟨h, h3⟩ := an (show (chkG c "range" fn && chkE c a x && notStar x) = true from h)
            obtain ⟨h1, h2⟩ := an h
            obtain ⟨q, rfl, hg, hp⟩ := chkG_inv g h1
            exact i_rng1 (pi_range1 hg (g.blt _ (by decide)) (pa_cons (okE a _ _ g x h2) pa_nil (star_cons h3)) (by rw [star_cons h3]; rfl))
    | _ => exact ff h
  | .rng2 a b, c, X, g, t, e, h => by
    cases e with
    | Call fn xs ks p =>
      cases xs with
      | nil => exact ff h
      | cons x xs =>
        cases xs with
        | nil => exact ff h
        | cons y xs =>
          cases xs with
          | cons _ _ => exact ff h
          | nil =>
            cases ks with
            | cons _ _ => exact ff h
            | nil =>
              obtain ⟨h, h5⟩ := an (show (chkG c "range" fn && chkE c a x && notStar x && chkE c b y && notStar y) = true from h)
              obtain ⟨h, h4⟩ := an h
              obtain ⟨h, h3⟩ := an h
              obtain ⟨h1, h2⟩ := an h
              obtain ⟨q, rfl, hg, hp⟩ := chkG_inv g h1
              exact i_rng2 (pi_range2 hg (g.blt _ (by decide)) (pa_cons (okE a _ _ g x h2) (pa_cons (okE b _ _ g y h4) pa_nil (star_cons h5)) (star_cons h3)) (by rw [star_cons h3, star_cons h5]; rfl) (by rw [star_cons h5]; rfl))
    | _ => exact ff h
  | .rng3 a b d, c, X, g, t, e, h => by
    cases e with
    | Call fn xs ks p =>
      cases xs with
      | nil => exact ff h
      | cons x xs =>
        cases xs with
        | nil => exact ff h
        | cons y xs =>
          cases xs with
          | nil => exact ff h
          | cons z xs =>
            cases xs with
            | cons _ _ => exact ff h
            | nil =>
              cases ks with
              | cons _ _ => exact ff h
              | nil =>
                obtain ⟨h, h7⟩ := an (show (chkG c "range" fn && chkE c a x && notStar x && chkE c b y && notStar y && chkE c d z && notStar z) = true from h)
                obtain ⟨h, h6⟩ := an h
                obtain ⟨h, h5⟩ := an h
                obtain ⟨h, h4⟩ := an h
                obtain ⟨h, h3⟩ := an h
                obtain ⟨h1, h2⟩ := an h
                obtain ⟨q, rfl, hg, hp⟩ := chkG_inv g h1
                exact i_rng3 (pi_range3 hg (g.blt _ (by decide)) (pa_cons (okE a _ _ g x h2) (pa_cons (okE b _ _ g y h4) (pa_cons (okE d _ _ g z h6) pa_nil (star_cons h7)) (star_cons h5)) (star_cons h3)) (star_cons h3) (by rw [star_cons h5, star_cons h7]; rfl))
    | _ => exact ff h
  | .enum a, c, X, g, t, e, h => by
    cases t with
    | Tuple tes tk tp =>
      cases e with
      | Call fn xs ks p =>
        cases xs with
        | nil => exact ff h
        | cons x xs =>
          cases xs with
          | cons _ _ => exact ff h
          | nil =>
            cases ks with
            | cons _ _ => exact ff h
            | nil =>
              obtain ⟨h, h3⟩ := an (show (chkG c "enumerate" fn && chkE c a x && notStar x) = true from h)
              obtain ⟨h1, h2⟩ := an h
              obtain ⟨q, rfl, hg, hp⟩ := chkG_inv g h1
              exact i_enum (pi_enumA hg (g.blt _ (by decide)) (pa_cons (okE a _ _ g x h2) pa_nil (star_cons h3)) (by rw [star_cons h3]; rfl))
      | _ => exact ff h
    | _ => cases e <;> exact ff h
  | .zip a b, c, X, g, t, e, h => by
    cases t with
    | Tuple tes tk tp =>
      cases e with
      | Call fn xs ks p =>
        cases xs with
        | nil => exact ff h
        | cons x xs =>
          cases xs with
          | nil => exact ff h
          | cons y xs =>
            cases xs with
            | cons _ _ => exact ff h
            | nil =>
              cases ks with
              | cons _ _ => exact ff h
              | nil =>
                obtain ⟨h, h5⟩ := an (show (chkG c "zip" fn && chkE c a x && notStar x && chkE c b y && notStar y) = true from h)
                obtain ⟨h, h4⟩ := an h
                obtain ⟨h, h3⟩ := an h
                obtain ⟨h1, h2⟩ := an h
                obtain ⟨q, rfl, hg, hp⟩ := chkG_inv g h1
                exact i_zip (pi_zipK hg (g.blt _ (by decide)) (pa_cons (okE a _ _ g x h2) (pa_cons (okE b _ _ g y h4) pa_nil (star_cons h5)) (star_cons h3)) (star_cons h3) (by rw [star_cons h5]; rfl))
      | _ => exact ff h
    | _ => cases e <;> exact ff h
  | .zip3 a b d, c, X, g, t, e, h => by
    cases t with
    | Tuple tes tk tp =>
      cases e with
      | Call fn xs ks p =>
        rcases xs with _ | ⟨x, _ | ⟨y, _ | ⟨z, _ | ⟨_, _⟩⟩⟩⟩ <;> rcases ks with _ | ⟨_, _⟩ <;> first | exact ff h | skip
        obtain ⟨h, h7⟩ := an (show (chkG c "zip" fn && chkE c a x && notStar x && chkE c b y && notStar y && chkE c d z && notStar z) = true from h)
        obtain ⟨h, h6⟩ := an h
        obtain ⟨h, h5⟩ := an h
        obtain ⟨h, h4⟩ := an h
        obtain ⟨h, h3⟩ := an h
        obtain ⟨h1, h2⟩ := an h
        obtain ⟨q, rfl, hg, hp⟩ := chkG_inv g h1
        exact i_zip3 (pi_zipK3 hg (g.blt _ (by decide)) (pa_cons (okE a _ _ g x h2) (pa_cons (okE b _ _ g y h4) (pa_cons (okE d _ _ g z h6) pa_nil (star_cons h7)) (star_cons h5)) (star_cons h3)) (star_cons h3) (by rw [star_cons h5, star_cons h7]; rfl))
      | _ => exact ff h
    | _ => cases e <;> exact ff h
  | .rvs a, c, X, g, t, e, h => by
    cases e with
    | Call fn xs ks p =>
      cases xs with
      | nil => exact ff h
      | cons x xs =>
        cases xs with
        | cons _ _ => exact ff h
        | nil =>
          cases ks with
          | cons _ _ => exact ff h
          | nil =>
            obtain ⟨h, h3⟩ := an (show (chkG c "reversed" fn && chkE c a x && notStar x) = true from h)
            obtain ⟨h1, h2⟩ := an h
            obtain ⟨q, rfl, hg, hp⟩ := chkG_inv g h1
            exact i_rvs (RT.pi_revA hg (g.blt _ (by decide)) (okE a _ _ g x h2) (star_cons h3))
    | _ => exact ff h
  | .rvr a b, c, X, g, t, e, h => by
    cases e with
    | Call fn xs ks p =>
      cases xs with
      | nil => exact ff h
      | cons u xs =>
        cases xs with
        | cons _ _ => cases u with
          | Call fm ys ls p2 => cases ys with
            | nil => exact ff h
            | cons _ ys => cases ys with
              | nil => exact ff h
              | cons _ ys => cases ys with
                | nil => cases ls <;> exact ff h
                | cons _ _ => exact ff h
          | _ => exact ff h
        | nil =>
          cases u with
          | Call fm ys ls p2 =>
            cases ys with
            | nil => exact ff h
            | cons x ys =>
              cases ys with
              | nil => exact ff h
              | cons y ys =>
                cases ys with
                | cons _ _ => exact ff h
                | nil =>
                  cases ls with
                  | cons _ _ => exact ff h
                  | nil =>
                    cases ks with
                    | cons _ _ => exact ff h
                    | nil =>
                      obtain ⟨h, h6⟩ := an (show (chkG c "reversed" fn && chkG c "range" fm && chkE c a x && notStar x && chkE c b y && notStar y) = true from h)
                      obtain ⟨h, h5⟩ := an h
                      obtain ⟨h, h4⟩ := an h
                      obtain ⟨h, h3⟩ := an h
                      obtain ⟨h1, h2⟩ := an h
                      obtain ⟨q, rfl, hg, hp⟩ := chkG_inv g h1
                      obtain ⟨q2, rfl, hg2, hp2⟩ := chkG_inv g h2
                      exact i_rvr (pi_revR hg (g.blt _ (by decide)) (prg_2 hg2 (g.blt _ (by decide)) (okE a _ _ g x h3) (okE b _ _ g y h5) (star_cons h4) (star_cons h6) (any1 h6)) rfl)
          | _ => exact ff h
    | _ => exact ff h
  | .rvr1 a, c, X, g, t, e, h => by
    cases e with
    | Call fn xs ks p =>
      cases xs with
      | nil => exact ff h
      | cons u xs =>
        cases xs with
        | cons _ _ => cases u with
          | Call fm ys ls p2 => cases ys with
            | nil => exact ff h
            | cons _ ys => cases ys with
              | nil => cases ls <;> exact ff h
              | cons _ ys => exact ff h
          | _ => exact ff h
        | nil =>
          cases u with
          | Call fm ys ls p2 =>
            cases ys with
            | nil => exact ff h
            | cons x ys =>
              cases ys with
              | cons _ _ => exact ff h
              | nil =>
                cases ls with
                | cons _ _ => exact ff h
                | nil =>
                  cases ks with
                  | cons _ _ => exact ff h
                  | nil =>
                    obtain ⟨h, h4⟩ := an (show (chkG c "reversed" fn && chkG c "range" fm && chkE c a x && notStar x) = true from h)
                    obtain ⟨h, h3⟩ := an h
                    obtain ⟨h1, h2⟩ := an h
                    obtain ⟨q, rfl, hg, hp⟩ := chkG_inv g h1
                    obtain ⟨q2, rfl, hg2, hp2⟩ := chkG_inv g h2
                    exact i_rvr1 (pi_revR hg (g.blt _ (by decide)) (prg_1 hg2 (g.blt _ (by decide)) (okE a _ _ g x h3) (star_cons h4)) rfl)
          | _ => exact ff h
    | _ => exact ff h
end
end
end M61

set_option Elab.async false
set_option linter.all false
set_option autoImplicit false
set_option maxRecDepth 100000
set_option maxHeartbeats 4000000
/-! M5e: the check is sound: statements, defs. -/
namespace M61
open PySem PySem.Spec PyProof.Rows L2
section
variable {c : Cfg} {G : Ctx} {n : Nat} {X : Cx}
theorem s_setF {i : Nat} {ml : ML} {st : Stmt} (h : PS X st (tAsg (rdL X.K ml) (gName i))) : PS X st (rdS X.K fun A ρ C => ml ρ C fun ds ρ1 C1 => A.nx (ρ1.set i (some (.dat (.lst ds)))) C1) :=
  ps_weak h fun D σ H ⟨B, F, ρ, C, A, R, m, k1, _⟩ => ⟨B, F, ρ, C, _, R, m, fun ds ρ1 C1 F1 a vs H1 s1 R1 hl rs n1 n2 n3 no q1 => by
    have s2 : Same F1 (upd F1 a (HO.lst vs)) := same_upd n1
    exact k1 _ C1 _ _ H1 (s1.trans s2) ((R1.frzNew hl n1 n2 n3 no).setDat i (.lst upd_same (rs.mono s2))) q1⟩
theorem nm_ok (g : Good c G n X) {i : Nat} {x : Str} (h1 : decide (c.N[i]? = some x) = true) (h2 : locB c x = true) : X.N.Nodup ∧ X.N[i]? = some x ∧ Loc X.env.scope x ∧ (X.fn x = true ∨ X.env.scope.names.lookup x = some .local) :=
  ⟨by rw [g.hN]; exact g.nd, by rw [g.hN]; exact of_decide_eq_true h1, by rw [g.sc]; exact locB_inv h2, by rw [g.sc]; exact g.fn x h2⟩
theorem sw_no (g : Good c G n X) {x : Str} {px : Pos} {l : Nat} {e : Expr} (h : noSw c x px e = true) : swapsWith e (some (.Name x px)) l X.env = pure false := by
  cases e with
  | ListComp el gs scope p =>
    have h : (decide (c.sc.names.lookup x = some .cell) || !(px.line == p.line)) = true := h
    unfold swapsWith
    show (pure (X.env.blockKind == .function && X.env.kindOf x == some .local && px.line == p.line && !(scope.names.any fun (n, k) => n == x && (k == .local || k == .cell))) : Sem Bool) = pure false
    congr 1
    rw [Bool.or_eq_true] at h
    rcases h with h | h
    · have q : X.env.kindOf x = some .cell := by show X.env.scope.names.lookup x = _; rw [g.sc]; exact of_decide_eq_true h
      rw [q]
      have e : ((some NameKind.cell : Option NameKind) == some .local) = false := by decide
      rw [e, Bool.and_false, Bool.false_and, Bool.false_and]
    · have q : (px.line == p.line) = false := by simpa using h
      rw [q, Bool.and_false, Bool.false_and]
  | _ => first | exact noComp_sw h | exact ff h
theorem unp_sw {t e : Expr} {env : Env} (h : unpOk t e = true) : swappedStores [t] e env = pure none ∧ ∀ l, swapsWith e (some t) l env = pure false := by
  cases t with
  | Tuple ts k p =>
    cases e with
    | Tuple vs k2 p2 =>
      have h : (!(ts.length == 2 || ts.length == 3) || (vs.all (foldedForSure 8) && vs.all notStar)) = true := h
      refine ⟨?_, fun _ => rfl⟩
      unfold swappedStores
      show (if (!(ts.length == 2 || ts.length == 3) || vs.length != ts.length || env.blockKind != .function) = true then pure none else _) = pure none
      rcases Bool.or_eq_true_iff.mp h with h | h
      · rw [h]; rfl
      · obtain ⟨h1, _⟩ := an h
        split
        · rfl
        · dsimp only
          split
          · rfl
          · split
            · rfl
            · first | rfl | (rw [if_pos h1]; first | done | rfl)
    | _ => first | exact ⟨rfl, fun _ => rfl⟩ | exact ff h
  | _ => exact ff h
theorem filterMap_lt {α β : Type} {f : α → Option β} : ∀ {xs : List α}, (∃ x ∈ xs, f x = none) → (xs.filterMap f).length < xs.length
  | [], h => by obtain ⟨x, hx, _⟩ := h; exact absurd hx (by simp)
  | x :: xs, h => by
    rw [List.filterMap_cons]
    have le := List.length_filterMap_le f xs
    cases e : f x with
    | none => show (xs.filterMap f).length < (x :: xs).length; rw [List.length_cons]; omega
    | some y =>
      obtain ⟨z, hz, hn⟩ := h
      rcases List.mem_cons.mp hz with rfl | q
      · rw [hn] at e; cases e
      · have := filterMap_lt ⟨z, q, hn⟩
        show (y :: xs.filterMap f).length < (x :: xs).length
        rw [List.length_cons, List.length_cons]; omega
theorem unpC_sw {c : Cfg} {t e : Expr} {env : Env} (hs : env.scope = c.sc) (h : unpCell c t e = true) : swappedStores [t] e env = pure none ∧ notComp e = true := by
  cases t with
  | Tuple ts k p =>
    cases e with
    | Tuple vs k2 p2 =>
      have h : ts.any (cellNm c) = true := h
      refine ⟨?_, rfl⟩
      obtain ⟨z, hz, hc⟩ := List.any_eq_true.mp h
      unfold swappedStores
      dsimp only
      split
      · rfl
      split
      · rfl
      split
      · rfl
      · rename_i hq
        exfalso
        refine hq ?_
        rw [Bool.or_eq_true]
        refine .inl ?_
        rw [bne_iff_ne]
        refine Nat.ne_of_lt (filterMap_lt ⟨z, hz, ?_⟩)
        cases z with
        | Name x px =>
          have q : env.kindOf x = some .cell := by show env.scope.names.lookup x = _; rw [hs]; exact of_decide_eq_true hc
          have e : ((some NameKind.cell : Option NameKind) == some .local) = false := by decide
          simp only [q, e, Bool.false_and]
          rfl
        | _ => exact ff hc
    | _ => exact ff h
  | _ => exact ff h
theorem parV_inv {vs : List Expr} (h : parV vs = true) : vs.all (foldedForSure 8) = false ∧ vs.all (constantsAlone 8) = false := by
  unfold parV at h
  simp only [Bool.and_eq_true, Bool.not_eq_true'] at h
  exact h
theorem sw_par2 {x y : Str} {px py pt p2 : Pos} {kt k2 : Nat} {a b : Expr} {env : Env} (hk : env.blockKind = .function) (lx : env.kindOf x = some .local) (ly : env.kindOf y = some .local) (hl : (py.line == px.line) = true)
    (hd : ([x, y] : List Str).eraseDups.length = 2) (ha : notStar a = true) (hb : notStar b = true) (hf : [a, b].all (foldedForSure 8) = false) (hc : [a, b].all (constantsAlone 8) = false) :
    swappedStores [.Tuple [.Name x px, .Name y py] kt pt] (.Tuple [a, b] k2 p2) env = pure (some [x, y]) := by
  have hl2 : py.line = px.line := by simpa using hl
  have e0 : (Expr.Name x px).pos.line = px.line := rfl
  unfold swappedStores
  dsimp only
  split
  · rename_i h; exfalso; revert h; simp [hk]
  split
  · rename_i h
    exfalso
    simp only [List.any_cons, List.any_nil, Bool.or_eq_true] at h
    rcases h with h | h | h
    · cases a <;> first | exact absurd h Bool.false_ne_true | cases ha
    · cases b <;> first | exact absurd h Bool.false_ne_true | cases hb
    · exact absurd h Bool.false_ne_true
  simp only [List.filterMap_cons, List.filterMap_nil, lx, ly, hl2, e0, List.head?_cons, Option.map_some, Option.getD_some, beq_self_eq_true, Bool.and_self, if_true, hd]
  split
  · rename_i h; exfalso; revert h; simp
  split
  · rename_i h; rw [hf] at h; cases h
  split
  · rename_i h; rw [hc] at h; cases h
  rfl
theorem sw_par3 {x y z : Str} {px py pz pt p2 : Pos} {kt k2 : Nat} {a b d : Expr} {env : Env} (hk : env.blockKind = .function) (lx : env.kindOf x = some .local) (ly : env.kindOf y = some .local) (lz : env.kindOf z = some .local) (hl : (py.line == px.line) = true) (hl' : (pz.line == px.line) = true)
    (hd : ([x, y, z] : List Str).eraseDups.length = 3) (ha : notStar a = true) (hb : notStar b = true) (hdd : notStar d = true) (hf : [a, b, d].all (foldedForSure 8) = false) (hc : [a, b, d].all (constantsAlone 8) = false) :
    swappedStores [.Tuple [.Name x px, .Name y py, .Name z pz] kt pt] (.Tuple [a, b, d] k2 p2) env = pure (some [x, y, z]) := by
  have hl2 : py.line = px.line := by simpa using hl
  have hl3 : pz.line = px.line := by simpa using hl'
  have e0 : (Expr.Name x px).pos.line = px.line := rfl
  unfold swappedStores
  dsimp only
  split
  · rename_i h; exfalso; revert h; simp [hk]
  split
  · rename_i h
    exfalso
    simp only [List.any_cons, List.any_nil, Bool.or_eq_true] at h
    rcases h with h | h | h | h
    · cases a <;> first | exact absurd h Bool.false_ne_true | cases ha
    · cases b <;> first | exact absurd h Bool.false_ne_true | cases hb
    · cases d <;> first | exact absurd h Bool.false_ne_true | cases hdd
    · exact absurd h Bool.false_ne_true
  simp only [List.filterMap_cons, List.filterMap_nil, lx, ly, lz, hl2, hl3, e0, List.head?_cons, Option.map_some, Option.getD_some, beq_self_eq_true, Bool.and_self, if_true, hd]
  split
  · rename_i h; exfalso; revert h; simp
  split
  · rename_i h; rw [hf] at h; cases h
  split
  · rename_i h; rw [hc] at h; cases h
  rfl
theorem chkEs_notStar : ∀ {as : Es} {es : List Expr}, chkEs c as es = true → ∀ e ∈ es, notStar e = true
  | .nil, [], _, _, h => absurd h (by simp)
  | .nil, _ :: _, h, _, _ => ff h
  | .cons _ _, [], h, _, _ => ff h
  | .cons a as, e :: es, h, x, hx => by
    obtain ⟨h1, h2⟩ := an (show (chkE c a e && notStar e && chkEs c as es) = true from h)
    rcases List.mem_cons.mp hx with rfl | q
    · exact (an h1).2
    · exact chkEs_notStar h2 x q
theorem sub_pg {to ti : TE} {v s : Expr} {p : Pos} (ho : PE X v to) (hi : PE X s ti) (hs : notSlice s = true) : PG X (.Subscript v s p) (gSub to ti rSetL) := by
  refine pg_sub ho hi set_list ?_
  intro u
  cases s <;> first | rfl | exact ff hs
theorem par2_ok {i j : Nat} {es : Es} {st : Stmt} (ok : ∀ xs, chkEs c es xs = true → PA X xs (rdA X.K (denEs G es))) (g : Good c G n X) (h : chkS c (.par2 i j es) st = true) : PS X st (rdS X.K (denS G (.par2 i j es))) := by
  unfold chkS at h
  split at h
  all_goals first | exact absurd h Bool.false_ne_true | (rename_i q; cases q)
  obtain ⟨h, h9⟩ := an h
  obtain ⟨h, h8⟩ := an h
  obtain ⟨h, h7⟩ := an h
  obtain ⟨h, h6⟩ := an h
  obtain ⟨h, h5⟩ := an h
  obtain ⟨h, h4⟩ := an h
  obtain ⟨h, h3⟩ := an h
  obtain ⟨h1, h2⟩ := an h
  have k4 := of_decide_eq_true h4
  have k5 := of_decide_eq_true h5
  obtain ⟨w1, w2⟩ := parV_inv h8
  have st := chkEs_notStar h9
  have hb : X.env.blockKind = .function := by unfold Env.blockKind; rw [g.sc, g.kind]; rfl
  refine s_par2 (ps_par g.calm (by rw [g.hN]; exact g.nd) (by rw [g.hN]; exact of_decide_eq_true h1) (by rw [g.hN]; exact of_decide_eq_true h2) (of_decide_eq_true h3) (by rw [g.sc]; exact k4) (by rw [g.sc]; exact k5) (ok _ h9) ?_)
  exact sw_par2 hb (by show X.env.scope.names.lookup _ = _; rw [g.sc]; exact k4) (by show X.env.scope.names.lookup _ = _; rw [g.sc]; exact k5) h6 (of_decide_eq_true h7) (st _ (by simp)) (st _ (by simp)) w1 w2
theorem par3_ok {i j l : Nat} {es : Es} {st : Stmt} (ok : ∀ xs, chkEs c es xs = true → PA X xs (rdA X.K (denEs G es))) (g : Good c G n X) (h : chkS c (.par3 i j l es) st = true) : PS X st (rdS X.K (denS G (.par3 i j l es))) := by
  unfold chkS at h
  split at h
  all_goals first | exact absurd h Bool.false_ne_true | (rename_i q; cases q)
  obtain ⟨h, h14⟩ := an h
  obtain ⟨h, h13⟩ := an h
  obtain ⟨h, h12⟩ := an h
  obtain ⟨h, h11⟩ := an h
  obtain ⟨h, h10⟩ := an h
  obtain ⟨h, h9⟩ := an h
  obtain ⟨h, h8⟩ := an h
  obtain ⟨h, h7⟩ := an h
  obtain ⟨h, h6⟩ := an h
  obtain ⟨h, h5⟩ := an h
  obtain ⟨h, h4⟩ := an h
  obtain ⟨h, h3⟩ := an h
  obtain ⟨h1, h2⟩ := an h
  have k7 := of_decide_eq_true h7
  have k8 := of_decide_eq_true h8
  have k9 := of_decide_eq_true h9
  obtain ⟨w1, w2⟩ := parV_inv h13
  have st := chkEs_notStar h14
  have hb : X.env.blockKind = .function := by unfold Env.blockKind; rw [g.sc, g.kind]; rfl
  refine s_par3 (ps_par3 g.calm (by rw [g.hN]; exact g.nd) (by rw [g.hN]; exact of_decide_eq_true h1) (by rw [g.hN]; exact of_decide_eq_true h2) (by rw [g.hN]; exact of_decide_eq_true h3) (of_decide_eq_true h4) (of_decide_eq_true h5) (of_decide_eq_true h6) (by rw [g.sc]; exact k7) (by rw [g.sc]; exact k8) (by rw [g.sc]; exact k9) (ok _ h14) ?_)
  exact sw_par3 hb (by show X.env.scope.names.lookup _ = _; rw [g.sc]; exact k7) (by show X.env.scope.names.lookup _ = _; rw [g.sc]; exact k8) (by show X.env.scope.names.lookup _ = _; rw [g.sc]; exact k9) h10 h11 (of_decide_eq_true h12) (st _ (by simp)) (st _ (by simp)) (st _ (by simp)) w1 w2
mutual
theorem okS : ∀ (a : S) (c : Cfg) (X : Cx) (_ : Good c G n X) (st : Stmt), chkS c a st = true → PS X st (rdS X.K (denS G a))
  | .set i a, c, X, g, st, h => by
    cases st with
    | Assign ts e p =>
      cases ts with
      | nil => exact ff h
      | cons t ts =>
        cases ts with
        | cons _ _ => cases t <;> exact ff h
        | nil =>
          cases t with
          | Name x px =>
            obtain ⟨h, h4⟩ := an (show (decide (c.N[i]? = some x) && locB c x && chkE c a e && notComp e) = true from h)
            obtain ⟨h, h3⟩ := an h
            obtain ⟨h1, h2⟩ := an h
            obtain ⟨k1, k2, k3, k4⟩ := nm_ok g h1 h2
            exact s_set (ps_set k1 k2 k3 (okE a c X g e h3) (noComp_sw h4) k4)
          | _ => exact ff h
    | _ => exact ff h
  | .own i l, c, X, g, st, h => by
    cases st with
    | Assign ts e p =>
      cases ts with
      | nil => exact ff h
      | cons t ts =>
        cases ts with
        | cons _ _ => cases t <;> exact ff h
        | nil =>
          cases t with
          | Name x px =>
            obtain ⟨h, h4⟩ := an (show (decide (c.N[i]? = some x) && locB c x && chkL c l e && (swB c x px e || noSw c x px e)) = true from h)
            obtain ⟨h, h3⟩ := an h
            obtain ⟨h1, h2⟩ := an h
            obtain ⟨k1, k2, k3, k4⟩ := nm_ok g h1 h2
            obtain ⟨o1, o2⟩ := okL l c X g e h3
            rcases Bool.or_eq_true_iff.mp h4 with h4 | h4
            · exact s_own (o2 i x px p (of_decide_eq_true h1) h4)
            · exact s_own (ps_set k1 k2 k3 o1 (sw_no g h4) k4)
          | _ => exact ff h
    | _ => exact ff h
  | .setF i l, c, X, g, st, h => by
    cases st with
    | Assign ts e p =>
      cases ts with
      | nil => exact ff h
      | cons t ts =>
        cases ts with
        | cons _ _ => cases t <;> exact ff h
        | nil =>
          cases t with
          | Name x px =>
            obtain ⟨h, h4⟩ := an (show (decide (c.N[i]? = some x) && locB c x && chkL c l e && (swB c x px e || noSw c x px e)) = true from h)
            obtain ⟨h, h3⟩ := an h
            obtain ⟨h1, h2⟩ := an h
            obtain ⟨k1, k2, k3, k4⟩ := nm_ok g h1 h2
            obtain ⟨o1, o2⟩ := okL l c X g e h3
            rcases Bool.or_eq_true_iff.mp h4 with h4 | h4
            · exact s_setF (o2 i x px p (of_decide_eq_true h1) h4)
            · exact s_setF (ps_set k1 k2 k3 o1 (sw_no g h4) k4)
          | _ => exact ff h
    | _ => exact ff h
  | .unp tg a, c, X, g, st, h => by
    cases st with
    | Assign ts e p =>
      cases ts with
      | nil => exact ff h
      | cons t ts =>
        cases ts with
        | cons _ _ => exact ff h
        | nil =>
          obtain ⟨h, h3⟩ := an (show (chkTg c tg t && chkE c a e && (unpOk t e || unpCell c t e)) = true from h)
          obtain ⟨h1, h2⟩ := an h
          obtain ⟨w1, w2⟩ : swappedStores [t] e X.env = pure none ∧ ∀ l, swapsWith e (some t) l X.env = pure false := by
            rcases Bool.or_eq_true_iff.mp h3 with h3 | h3
            · exact unp_sw h3
            · exact ⟨(unpC_sw g.sc h3).1, fun l => noComp_sw (unpC_sw g.sc h3).2⟩
          exact s_unp (ps_asg (okE a c X g e h2) (okTg g tg t h1) (w2 _) w1 (by rw [tg_assign h1]; rfl))
    | _ => exact ff h
  | .par2 i j es, c, X, g, st, h => par2_ok (fun xs q => okEs es c X g xs q) g h
  | .par3 i j l es, c, X, g, st, h => par3_ok (fun xs q => okEs es c X g xs q) g h
  | .aug i o a, c, X, g, st, h => by
    cases st with
    | AugAssign t op e p =>
      cases t with
      | Name x px =>
        obtain ⟨h, h5⟩ := an (show (decide (c.N[i]? = some x) && locB c x && visB c.sc x && chkE c a e && ((decide (o = .add) && decide (op = .Add)) || (decide (o = .sub) && decide (op = .Sub)))) = true from h)
        obtain ⟨h, h4⟩ := an h
        obtain ⟨h, h3⟩ := an h
        obtain ⟨h1, h2⟩ := an h
        obtain ⟨k1, k2, k3, k4⟩ := nm_ok g h1 h2
        rcases Bool.or_eq_true_iff.mp h5 with h5 | h5
        · obtain ⟨q1, q2⟩ := an h5
          have e1 : o = .add := of_decide_eq_true q1
          have e2 : op = .Add := of_decide_eq_true q2
          subst e1 e2
          exact s_augA (ps_aug k1 k2 k3 (okE a c X g e h4) ip_add k4)
        · obtain ⟨q1, q2⟩ := an h5
          have e1 : o = .sub := of_decide_eq_true q1
          have e2 : op = .Sub := of_decide_eq_true q2
          subst e1 e2
          exact s_augS (ps_aug k1 k2 k3 (okE a c X g e h4) ip_sub k4)
      | _ => exact ff h
    | _ => exact ff h
  | .app i a, c, X, g, st, h => by
    cases st with
    | Expr q p =>
      cases q with
      | Call fn xs ks cp =>
        cases fn with
        | Attribute v m ap =>
          cases xs with
          | nil => cases ks <;> exact ff h
          | cons e xs =>
            cases xs with
            | cons _ _ => cases ks <;> exact ff h
            | nil =>
              cases ks with
              | cons _ _ => exact ff h
              | nil =>
                obtain ⟨h, h5⟩ := an (show (chkVar c i v && isNm "append" m && (ap.endLine == cp.line) && chkE c a e && notStar e) = true from h)
                obtain ⟨h, h4⟩ := an h
                obtain ⟨h, h3⟩ := an h
                obtain ⟨h1, h2⟩ := an h
                have e0 : m = Str.ofString "append" := of_decide_eq_true h2
                subst e0
                exact s_app (ps_expr (pe_bm PySem.F.plainAttrs_list PySem.F.slot_list_append PySem.F.type_list_append mt_append (var_pe g h1) (pa_cons (okE a c X g e h4) pa_nil (star_cons h5)) (attr_plain (var_attr h1)) (few1 h5) h3 (star_cons h5) rfl) rfl)
        | _ => cases xs <;> cases ks <;> exact ff h
      | _ => exact ff h
    | _ => exact ff h
  | .ext i a, c, X, g, st, h => by
    cases st with
    | Expr q p =>
      cases q with
      | Call fn xs ks cp =>
        cases fn with
        | Attribute v m ap =>
          cases xs with
          | nil => cases ks <;> exact ff h
          | cons e xs =>
            cases xs with
            | cons _ _ => cases ks <;> exact ff h
            | nil =>
              cases ks with
              | cons _ _ => exact ff h
              | nil =>
                obtain ⟨h, h5⟩ := an (show (chkVar c i v && isNm "extend" m && (ap.endLine == cp.line) && chkE c a e && notStar e) = true from h)
                obtain ⟨h, h4⟩ := an h
                obtain ⟨h, h3⟩ := an h
                obtain ⟨h1, h2⟩ := an h
                have e0 : m = Str.ofString "extend" := of_decide_eq_true h2
                subst e0
                exact s_ext (ps_expr (pe_bm PySem.F.plainAttrs_list PySem.F.slot_list_extend PySem.F.type_list_extend mt_extend (var_pe g h1) (pa_cons (okE a c X g e h4) pa_nil (star_cons h5)) (attr_plain (var_attr h1)) (few1 h5) h3 (star_cons h5) rfl) rfl)
        | _ => cases xs <;> cases ks <;> exact ff h
      | _ => exact ff h
    | _ => exact ff h
  | .oset i k a, c, X, g, st, h => by
    cases st with
    | Assign ts e p =>
      cases ts with
      | nil => exact ff h
      | cons t ts =>
        cases ts with
        | cons _ _ => cases t <;> exact ff h
        | nil =>
          cases t with
          | Subscript v s p2 =>
            obtain ⟨h, h5⟩ := an (show (chkVar c i v && chkE c k s && notSlice s && chkE c a e && notComp e) = true from h)
            obtain ⟨h, h4⟩ := an h
            obtain ⟨h, h3⟩ := an h
            obtain ⟨h1, h2⟩ := an h
            exact s_oset (ps_asg (okE a c X g e h4) (sub_pg (var_pe g h1) (okE k c X g s h2) h3) (by unfold swapsWithSole; exact noComp_sw h5) (by cases e <;> rfl) rfl)
          | _ => exact ff h
    | _ => exact ff h
  | .oaug _ _ _ _, c, X, g, st, h => by cases st <;> exact ff h
  | .dset o k a, c, X, g, st, h => by
    cases st with
    | Assign ts e p =>
      cases ts with
      | nil => exact ff h
      | cons t ts =>
        cases ts with
        | cons _ _ => cases t <;> first | exact ff h | (rename_i v s p2; cases s <;> first | exact ff h | (rename_i w j p3; cases w <;> exact ff h))
        | nil =>
          cases t with
          | Subscript v s p2 =>
            cases s with
            | Constant w j p3 =>
              cases w with
              | str x =>
                obtain ⟨h, h5⟩ := an (show (chkE c o v && isNm k x && chkE c a e && notComp e) = true from h)
                obtain ⟨h, h4⟩ := an h
                obtain ⟨h1, h2⟩ := an h
                have e1 : x = Str.ofString k := of_decide_eq_true h2
                subst e1
                have hu : X.A.units + 1 < cLine := by have := g.room.units; omega
                exact s_dset (ps_asg (okE a c X g e h4) (pg_sub (okE o c X g v h1) pe_str (set_dict hu) (fun u => rfl)) (by unfold swapsWithSole; exact noComp_sw h5) (by cases e <;> rfl) rfl)
              | _ => exact ff h
            | _ => exact ff h
          | _ => exact ff h
    | _ => exact ff h
  | .csub o k a, c, X, g, st, h => by
    cases st with
    | Assign ts e p =>
      cases ts with
      | nil => exact ff h
      | cons t ts =>
        cases ts with
        | cons _ _ => cases t <;> exact ff h
        | nil =>
          cases t with
          | Subscript v s p2 =>
            obtain ⟨h, h5⟩ := an (show (chkE c o v && chkE c k s && notSlice s && chkE c a e && notComp e) = true from h)
            obtain ⟨h, h4⟩ := an h
            obtain ⟨h, h3⟩ := an h
            obtain ⟨h1, h2⟩ := an h
            exact s_csub (ps_asg (okE a c X g e h4) (sub_pg (okE o c X g v h1) (okE k c X g s h2) h3) (by unfold swapsWithSole; exact noComp_sw h5) (by cases e <;> rfl) rfl)
          | _ => exact ff h
    | _ => exact ff h
  | .capp o a, c, X, g, st, h => by
    cases st with
    | Expr q p =>
      cases q with
      | Call fn xs ks cp =>
        cases fn with
        | Attribute v m ap =>
          cases xs with
          | nil => cases ks <;> exact ff h
          | cons e xs =>
            cases xs with
            | cons _ _ => cases ks <;> exact ff h
            | nil =>
              cases ks with
              | cons _ _ => exact ff h
              | nil =>
                obtain ⟨h, h6⟩ := an (show (chkE c o v && attrOk v && isNm "append" m && (ap.endLine == cp.line) && chkE c a e && notStar e) = true from h)
                obtain ⟨h, h5⟩ := an h
                obtain ⟨h, h4⟩ := an h
                obtain ⟨h, h3⟩ := an h
                obtain ⟨h1, h2⟩ := an h
                have e0 : m = Str.ofString "append" := of_decide_eq_true h3
                subst e0
                exact s_capp (ps_expr (pe_bm PySem.F.plainAttrs_list PySem.F.slot_list_append PySem.F.type_list_append mt_append (okE o c X g v h1) (pa_cons (okE a c X g e h5) pa_nil (star_cons h6)) (attr_plain h2) (few1 h6) h4 (star_cons h6) rfl) rfl)
        | _ => cases xs <;> cases ks <;> exact ff h
      | _ => exact ff h
    | _ => exact ff h
  | .cins o k a, c, X, g, st, h => by
    cases st with
    | Expr q p =>
      cases q with
      | Call fn xs ks cp =>
        cases fn with
        | Attribute v m ap =>
          cases xs with
          | nil => cases ks <;> exact ff h
          | cons s xs =>
            cases xs with
            | nil => cases ks <;> exact ff h
            | cons e xs =>
              cases xs with
              | cons _ _ => cases ks <;> exact ff h
              | nil =>
                cases ks with
                | cons _ _ => exact ff h
                | nil =>
                  obtain ⟨h, h8⟩ := an (show (chkE c o v && attrOk v && isNm "insert" m && (ap.endLine == cp.line) && chkE c k s && notStar s && chkE c a e && notStar e) = true from h)
                  obtain ⟨h, h7⟩ := an h
                  obtain ⟨h, h6⟩ := an h
                  obtain ⟨h, h5⟩ := an h
                  obtain ⟨h, h4⟩ := an h
                  obtain ⟨h, h3⟩ := an h
                  obtain ⟨h1, h2⟩ := an h
                  have e0 : m = Str.ofString "insert" := of_decide_eq_true h3
                  subst e0
                  exact s_cins (ps_expr (pe_bm PySem.F.plainAttrs_list PySem.F.slot_list_insert PySem.F.type_list_insert mt_insert (okE o c X g v h1) (pa_cons (okE k c X g s h5) (pa_cons (okE a c X g e h7) pa_nil (star_cons h8)) (star_cons h6)) (attr_plain h2) (few2 h6 h8) h4 (star_cons h6) (any1 h8)) rfl)
        | _ => cases xs <;> cases ks <;> first | exact ff h | (rename_i q _; cases q <;> exact ff h)
      | _ => exact ff h
    | _ => exact ff h
  | .fset cls f o a, c, X, g, st, h => by
    have hh : (match shAsgA st with
      | some (v, m, _, e, _) => isNm f m && c.flds.contains (cls, f) && chkE c o v && chkE c a e && notComp e
      | none => false) = true := h
    clear h
    split at hh
    · rename_i v m p e q hs
      obtain rfl := shAsgA_inv hs
      obtain ⟨h, h5⟩ := an hh
      obtain ⟨h, h4⟩ := an h
      obtain ⟨h, h3⟩ := an h
      obtain ⟨h1, h2⟩ := an h
      have e1 : m = Str.ofString f := of_decide_eq_true h1
      subst e1
      exact s_fset (g.fld cls f h2) (ps_fld (okE o c X g v h3) (okE a c X g e h4) (noComp_sw h5))
    · exact ff hh
  | .dpt d ks a, c, X, g, st, h => by
    have hh : (match shAsgS st with
      | some (v, s, _, e, _) => (match shTup s with
        | some (xs, _) => chkE c d v && chkEs c ks xs && chkE c a e && notComp e
        | none => false)
      | none => false) = true := h
    clear h
    split at hh
    · rename_i v s p e q hs
      obtain rfl := shAsgS_inv hs
      split at hh
      · rename_i xs t ht
        obtain ⟨k, q2, rfl⟩ := shTup_inv ht
        obtain ⟨h, h4⟩ := an hh
        obtain ⟨h, h3⟩ := an h
        obtain ⟨h1, h2⟩ := an h
        have hu : X.A.units + 1 < cLine := by have := g.room.units; omega
        exact s_dpt (ps_dput hu (okE d c X g v h1) (pe_tup (okEs ks c X g xs h2)) (okE a c X g e h3) (noComp_sw h4))
      · exact ff hh
    · exact ff hh
  | .ndef i mk, c, X, g, st, h => by cases st <;> exact ff h
  | .mkr mk js, c, X, g, st, h => by cases st <;> exact ff h
  | .mkc cls, c, X, g, st, h => by cases st <;> exact ff h
  | .exp a, c, X, g, st, h => by
    cases st with
    | Expr e p =>
      obtain ⟨h1, h2⟩ := an (show (chkE c a e && notComp e) = true from h)
      exact s_exp (ps_expr (okE a c X g e h1) (noComp_sw h2))
    | _ => exact ff h
  | .ife t a b, c, X, g, st, h => by
    cases st with
    | If q x y p =>
      obtain ⟨h, h3⟩ := an (show (chkT c t q && chkSs c a x && chkSs c b y) = true from h)
      obtain ⟨h1, h2⟩ := an h
      exact s_ife (ps_if (okT t c X g q h1) (okSs a c X g x h2) (okSs b c X g y h3))
    | _ => exact ff h
  | .for tg it b, c, X, g, st, h => by
    cases st with
    | For t e bd els p =>
      cases els with
      | cons _ _ => exact ff h
      | nil =>
        obtain ⟨h, h4⟩ := an (show (chkTg c tg t && chkI c it t e && chkSs c b bd && notSet e) = true from h)
        obtain ⟨h, h3⟩ := an h
        obtain ⟨h1, h2⟩ := an h
        exact s_for (ps_for (by rw [g.xe]; exact PassesOwn.never) g.calm (okI it c X g t e h2) (okTg g tg t h1) (okSs b c X g bd h3) (notSet_inv h4))
    | _ => exact ff h
  | .forc tg a b, c, X, g, st, h => by
    cases st with
    | For t e bd els p =>
      cases els with
      | cons _ _ => exact ff h
      | nil =>
        obtain ⟨h, h4⟩ := an (show (chkTg c tg t && chkE c a e && chkSs c b bd && notSet e) = true from h)
        obtain ⟨h, h3⟩ := an h
        obtain ⟨h1, h2⟩ := an h
        exact s_forc (ps_for (by rw [g.xe]; exact PassesOwn.never) g.calm (pi_seq (okE a c X g e h2)) (okTg g tg t h1) (okSs b c X g bd h3) (notSet_inv h4))
    | _ => exact ff h
  | .whl t b, c, X, g, st, h => by
    cases st with
    | While q bd els p =>
      cases els with
      | cons _ _ => exact ff h
      | nil =>
        obtain ⟨h1, h2⟩ := an (show (chkT c t q && chkSs c b bd) = true from h)
        exact s_whl (ps_while (by rw [g.xe]; exact PassesOwn.never) (okT t c X g q h1) (okSs b c X g bd h2))
    | _ => exact ff h
  | .ret a, c, X, g, st, h => by
    cases st with
    | Return e p =>
      cases e with
      | none => exact ff h
      | some e => exact s_ret (ps_ret (okE a c X g e h))
    | _ => exact ff h
  | .ret0, c, X, g, st, h => by
    cases st with
    | Return e p =>
      cases e with
      | some _ => exact ff h
      | none => exact s_ret0 ps_retN
    | _ => exact ff h
  | .pass, c, X, g, st, h => by
    cases st with
    | Pass p => exact s_pass ps_pass
    | _ => exact ff h
  | .brk, c, X, g, st, h => by
    cases st with
    | Break p => exact s_brk ps_break
    | _ => exact ff h
  | .cnt, c, X, g, st, h => by
    cases st with
    | Continue p => exact s_cnt ps_continue
    | _ => exact ff h
  | .nev, c, X, g, st, h => s_nev
theorem okSs : ∀ (a : Ss) (c : Cfg) (X : Cx) (_ : Good c G n X) (sts : List Stmt), chkSs c a sts = true → PSs X sts (rdS X.K (denSs G a))
  | .nil, c, X, g, [], _ => ss_nil
  | .nil, c, X, g, _ :: _, h => ff h
  | .cons _ _, c, X, g, [], h => ff h
  | .cons s ss, c, X, g, st :: sts, h => by
    obtain ⟨h1, h2⟩ := an (show (chkS c s st && chkSs c ss sts) = true from h)
    have q := ss_cons (ms := denS G s) (mss := denSs G ss) (okS s c X g st h1) (okSs ss c X g sts h2)
    exact q
end
end
end M61

set_option Elab.async false
set_option linter.all false
set_option autoImplicit false
set_option maxRecDepth 100000
/-! M6: the defs of a text, by a table. -/
namespace M61
open PySem PySem.Spec PyProof.Rows L2

/-- what an entry of the table is: a def, a method, a def made in a def, a class -/
inductive Kind where
  | fn
  | meth (cls m : String)
  | clo (mk : String)
  | cls
  deriving DecidableEq
/-- a def of the table: its text, its names, its inner form -/
structure DefI where
  name : String
  st : Stmt
  N : List Str
  ps : List Str
  d : Def
  kind : Kind := .fn
def scB (N P : List Str) (sc : Scope) : Bool :=
  decide (sc.kind = .function) && !sc.isCoroutine && !sc.isGenerator && decide N.Nodup && decide (N.take P.length = P) && P.all (fun x => decide (sc.names.lookup x = some .local) || decide (sc.names.lookup x = some .cell)) && sc.names.all (fun y => !decide (y.2 = .free))
theorem scB_inv {N P : List Str} {sc : Scope} (h : scB N P sc = true) : FnScope N P sc := by
  unfold scB at h
  simp only [Bool.and_eq_true, Bool.not_eq_true', decide_eq_true_eq, List.all_eq_true, Bool.or_eq_true, decide_eq_false_iff_not] at h
  obtain ⟨⟨⟨⟨⟨⟨h1, h2⟩, h3⟩, h4⟩, h5⟩, h6⟩, h7⟩ := h
  exact ⟨h1, h2, h3, h4, h5, h6, h7⟩
/-- what the table knows of the names of the text -/
structure Nms where
  cons : List (String × Int)
  txts : List (String × String)
  dcts : List (String × List (String × Int))
  flds : List (String × String)
def sigsOf (tab : List DefI) : List (String × Nat) := tab.filterMap fun di => match di.kind with
  | .fn => some (di.name, di.ps.length)
  | _ => none
def mthsOf (tab : List DefI) : List (String × String × Nat) := tab.filterMap fun di => match di.kind with
  | .meth cls m => some (cls, m, di.ps.length)
  | _ => none
def clssOf (tab : List DefI) : List (String × Nat) := tab.filterMap fun di => match di.kind with
  | .cls => some (di.name, di.d.ps)
  | _ => none
def defsOf (tab : List DefI) : List (String × Def) := tab.map fun di => (di.name, di.d)
/-- the def within the def -/
def nest0 (st : Stmt) : Stmt := (defBody st).headD st
structure NestS (st : Stmt) : Prop where
  shape : ∃ pos, st = .FunctionDef (stName st) (C8.fnArgs st) (C8.fnBody st) [] none [] (C8.fnScope st) none (stName st) pos
  d0 : (C8.fnArgs st).defaults = []
  k0 : (C8.fnArgs st).kw_defaults = []
  ann : ∀ env, annTrees (C8.fnArgs st) none env = []
/-- the form of a def that makes a def and returns it -/
def isMkr (n : Str) : List Stmt → Bool
  | [_, .Return (some (.Name y _)) _] => decide (y = n)
  | _ => false
theorem isMkr_inv {n : Str} {l : List Stmt} (h : isMkr n l = true) : ∃ s p2 p3, l = [s, .Return (some (.Name n p2)) p3] := by
  unfold isMkr at h
  split at h
  · rw [decide_eq_true_eq] at h; subst h; exact ⟨_, _, _, rfl⟩
  · cases h
/-- what a made def holds is the maker's -/
def capB (N : List Str) (sc nsc : Scope) (js : List Nat) : Bool :=
  (nsc.names.all fun y => !decide (y.2 = .free) || decide (sc.names.lookup y.1 = some .cell) || decide (sc.names.lookup y.1 = some .free)) && (freeOf nsc).all (fun y => decide ((y, NameKind.free) ∈ nsc.names)) && decide (js.map (fun j => N[j]?) = (freeOf nsc).map some)
def cfgOf (tab : List DefI) (nm : Nms) (N : List Str) (sc : Scope) (nst : Option (String × Scope)) : Cfg := ⟨N, sc, none, sigsOf tab, nm.cons, nm.txts, nm.dcts, nm.flds, mthsOf tab, clssOf tab, nst⟩
def chkBody (tab : List DefI) (nm : Nms) (di : DefI) : Bool :=
  match di.d.body with
  | .cons (.mkr mk js) .nil => decide (mk = di.name) && isMkr (stName (nest0 di.st)) (defBody di.st) && capB di.N (defScope di.st) (C8.fnScope (nest0 di.st)) js &&
      (match di.N.findIdx? (fun x => decide (x = stName (nest0 di.st))) with | some i => decide (di.N[i]? = some (stName (nest0 di.st))) && !js.contains i | none => false) && locL (cfgOf tab nm di.N (defScope di.st) none) (stName (nest0 di.st)) && plainNm (stName (nest0 di.st))
  | .cons (.ndef i mk) rest => decide (mk = di.name) && (match defBody di.st with
      | _ :: sts => decide (di.N[i]? = some (stName (nest0 di.st))) && locL (cfgOf tab nm di.N (defScope di.st) none) (stName (nest0 di.st)) && (C8.fnScope (nest0 di.st)).names.all (fun y => !decide (y.2 = .free) || decide ((defScope di.st).names.lookup y.1 = some .cell) || decide ((defScope di.st).names.lookup y.1 = some .free)) &&
          chkSs (cfgOf tab nm di.N (defScope di.st) (some (mk, C8.fnScope (nest0 di.st)))) rest sts
      | [] => false)
  | b => chkSs (cfgOf tab nm di.N (defScope di.st) none) b (defBody di.st)
def chkDef (tab : List DefI) (nm : Nms) (di : DefI) : Bool := match di.kind with
  | .fn => scB di.N di.ps (defScope di.st) && decide (di.d.ps = di.ps.length) && decide (di.d.ns = di.N.length) && decide (di.ps.length ≤ di.N.length) && !decide (di.name.toList.getLast? = some '/') && chkBody tab nm di
  | .meth cls m => scB di.N di.ps (defScope di.st) && decide (di.d.ps = di.ps.length) && decide (di.d.ns = di.N.length) && decide (di.ps.length ≤ di.N.length) && !decide (di.name.toList.getLast? = some '/') && decide (di.name = methKey cls m) && chkSs (cfgOf tab nm di.N (defScope di.st) none) di.d.body (defBody di.st)
  | .clo mk => NdefX.nscB di.N di.ps (freeOf (C8.fnScope di.st)) (C8.fnScope di.st) && decide (di.d.ps = di.ps.length + (freeOf (C8.fnScope di.st)).length) && decide (di.d.ns = di.N.length) && decide (di.name = cloKey mk) && chkSs (cfgOf tab nm di.N (C8.fnScope di.st) none) di.d.body (C8.fnBody di.st)
  | .cls => decide (di.d.ns = di.d.ps) && !decide (di.name.toList.getLast? = some '/') && (match di.d.body with | .cons (.mkc c) .nil => decide (c = di.name) | _ => false) && tab.any (fun dj => decide (dj.name = methKey di.name "__init__") && decide (dj.kind = .meth di.name "__init__"))
/-- the def as it stands behind the top -/
structure Has (K : PySem.W.Frag) (mg : Str → Option Value) (di : DefI) (fa : Addr) (fd : FuncData) : Prop where
  fn : Fun K (Str.ofString di.name) (Str.ofString di.name) di.st fa fd
  ns : PySem.W.nsIn K mainGlobals (Str.ofString di.name) = some (some (.ref fa))
  mgf : mg (Str.ofString di.name) = some (.ref fa)
  bs : Binds K fd di.ps []
/-- .. that has a def within -/
structure HasN (K : PySem.W.Frag) (cs : List (Addr × Addr)) (di : DefI) (fd : FuncData) : Prop where
  ns : NestS (nest0 di.st)
  cd : ∃ c P, (c, P) ∈ cs ∧ fd.code = .ref c ∧ (tabsK K).lookup P = some (nestQual di.name (nest0 di.st))
structure HasM (K : PySem.W.Frag) (cls m : String) (di : DefI) (cad fa : Addr) (fd : FuncData) : Prop where
  fn : Fun K (Str.ofString m) (Str.ofString (methKey cls m)) di.st fa fd
  ns : PySem.W.nsIn K mainGlobals (Str.ofString cls) = some (some (.ref cad))
  cl : Cls K cad
  me : Meth K cad (Str.ofString m) fa
  bs : Binds K fd di.ps []
structure HasC (K : PySem.W.Frag) (mg : Str → Option Value) (cls : String) (cad : Addr) : Prop where
  ns : PySem.W.nsIn K mainGlobals (Str.ofString cls) = some (some (.ref cad))
  mgf : mg (Str.ofString cls) = some (.ref cad)
  kp : PySem.W.keepIn K (.ref cad) = true
  mks : PySem.W.makesIn K cad = true
def isNest (di : DefI) : Bool := match di.d.body with
  | .cons (.mkr _ _) .nil => true
  | .cons (.ndef _ _) _ => true
  | _ => false
/-- what the top has written -/
structure Top (K : PySem.W.Frag) (w : World) (mg : Str → Option Value) (cs : List (Addr × Addr)) (tab : List DefI) (nm : Nms) : Prop where
  fns : ∀ di ∈ tab, di.kind = .fn → ∃ fa fd, Has K mg di fa fd ∧ (isNest di = true → HasN K cs di fd)
  mts : ∀ di ∈ tab, ∀ cls m, di.kind = .meth cls m → ∃ cad fa fd, HasM K cls m di cad fa fd
  cls : ∀ di ∈ tab, di.kind = .cls → ∃ cad, HasC K mg di.name cad
  clo : ∀ di ∈ tab, ∀ mk, di.kind = .clo mk → nestSt K mk = some di.st ∧ ∀ (n q : Str) (cl : List (Str × Addr)) (c : Addr) (doc pm ctv : Value) (us : List Value), us.length = di.ps.length → bindArgs ((NdefX.NF.of di.st n q cl c).fd doc pm ctv) ⟨us, []⟩ = pure (di.ps.zip us)
  fld : ∀ cls f, nm.flds.contains (cls, f) = true → ∀ cad, PySem.W.nsIn K mainGlobals (Str.ofString cls) = some (some (.ref cad)) → Cls K cad ∧ NoAttr K cad (Str.ofString f)
  blt : ∀ b ∈ usedB, mg (Str.ofString b) = none
  con : ∀ x i, nm.cons.contains (x, i) = true → ∃ u, mg (Str.ofString x) = some u ∧ L2.RelV (.int i) u
  txt : ∀ x s, nm.txts.contains (x, s) = true → ∃ u, mg (Str.ofString x) = some u ∧ L2.RelV (.str (Str.ofString s)) u
  dct : ∀ x kvs, nm.dcts.contains (x, kvs) = true → ∃ a, mg (Str.ofString x) = some (.ref a) ∧ WDct K w a kvs
/-- the table, checked -/
structure Tab (tab : List DefI) (nm : Nms) : Prop where
  nd : (tab.map fun di => di.name).Nodup
  chk : ∀ di ∈ tab, chkDef tab nm di = true

theorem lookup_defs : ∀ {tab : List DefI}, (tab.map fun di => di.name).Nodup → ∀ {di : DefI}, di ∈ tab → (defsOf tab).lookup di.name = some di.d
  | [], _, _, h => absurd h (by simp)
  | e :: tab, nd, di, h => by
    rw [List.map_cons, List.nodup_cons] at nd
    unfold defsOf
    rw [List.map_cons, List.lookup_cons]
    rcases List.mem_cons.mp h with rfl | h
    · rw [show (di.name == di.name) = true from beq_self_eq_true _]
    · have ne : di.name ≠ e.name := fun q => nd.1 (by rw [← q]; exact List.mem_map.mpr ⟨di, h, rfl⟩)
      rw [show (di.name == e.name) = false from by simpa using ne]
      exact lookup_defs nd.2 h
theorem lookup_inv {x : String} {d : Def} : ∀ {tab : List DefI}, (defsOf tab).lookup x = some d → ∃ di ∈ tab, di.name = x ∧ di.d = d
  | [], h => by cases h
  | e :: tab, h => by
    unfold defsOf at h
    rw [List.map_cons, List.lookup_cons] at h
    by_cases q : x = e.name
    · rw [show (x == e.name) = true from by simpa using q] at h
      cases h
      exact ⟨e, List.mem_cons_self, q.symm, rfl⟩
    · rw [show (x == e.name) = false from by simpa using q] at h
      obtain ⟨di, h1, h2⟩ := lookup_inv (tab := tab) h
      exact ⟨di, List.mem_cons_of_mem _ h1, h2⟩
theorem Cells.sub {K : PySem.W.Frag} {F H : Hp} {C C' : CM} (s : CM.Sub C' C) (c : Cells K F H C) : Cells K F H C' := ⟨c.fh, fun a x h => c.cel a x (s a x h), c.tb⟩
theorem Fr.sub {H F H' F' : Hp} {C C' C'' : CM} (s : CM.Sub C'' C') (f : Fr H F C H' F' C') : Fr H F C H' F' C'' := ⟨f.ff, f.fnew, f.frame, fun a c h => f.cnew a c (s a c h), f.stay⟩
theorem Gm_cl {tab : List (String × Def)} {n : Nat} {f : String} {ds : List D} {C : CM} {P : D → CM → Prop} {ex : ExP} {cl : List (Str × Addr)} : Gm tab n f ds C P { ex with cl := cl } = Gm tab n f ds C P ex := by
  cases n <;> rfl
theorem cloKey_last (mk : String) : (cloKey mk).toList.getLast? = some '/' := by
  unfold cloKey
  rw [String.toList_append]
  simp
theorem cloKey_inj {a b : String} (h : cloKey a = cloKey b) : a = b := by
  unfold cloKey at h
  have h2 := congrArg String.toList h
  rw [String.toList_append, String.toList_append] at h2
  exact String.toList_inj.mp (List.append_cancel_right h2)

section
variable {P : Program} {w : World} {K : PySem.W.Frag} {mg : Str → Option Value} {base : Heap} {cs : List (Addr × Addr)} {tab : List DefI} {nm : Nms}
/-- what an entry keeps, so many calls deep -/
def Keeps (P : Program) (w : World) (K : PySem.W.Frag) (mg : Str → Option Value) (base : Heap) (tab : List DefI) (ex : ExP) (n : Nat) (di : DefI) : Prop :=
  (di.kind = .fn → ∃ fa fd, Has K mg di fa fd ∧ FnG P w K mg base CX0 n fa fd di.ps (spOf K fun ds C Q => Gm (defsOf tab) n di.name ds C Q ex)) ∧
  (∀ cls m, di.kind = .meth cls m → ∃ cad fa fd, HasM K cls m di cad fa fd ∧ FnG P w K mg base CX0 n fa fd di.ps (spOf K fun ds C Q => Gm (defsOf tab) n di.name ds C Q ex)) ∧
  (∀ mk, di.kind = .clo mk → ∀ nf, NfK K mk nf → NOkG P w K mg base n nf (spClo K fun ds C Q => Gm (defsOf tab) n di.name ds C Q ex))
theorem FnG.imp {CX : CXT} {k : Nat} {f : Addr} {fd : FuncData} {ps : List Str} {sp sp' : Sp} (F : FnG P w K mg base CX k f fd ps sp) (h : ∀ vs H Q E, sp' vs H Q E → sp vs H Q E) : FnG P w K mg base CX k f fd ps sp' :=
  ⟨fun vs H Q E q => F.len vs H Q E (h _ _ _ _ q), fun A out s H ar us vs Q E gd hr he hb hv q => F.run A out s H ar us vs Q E gd hr he hb hv (h _ _ _ _ q)⟩
/-- the end of a body -/
theorem rt_sub {F H : Hp} {C : CM} {Q : D → CM → Prop} {QV : VK} (k : ∀ d C' F' v H', Cells K F' H' C' → Fr H F C H' F' C' → Rep K F' v d → Q d C' → QV v H') :
    (∀ d C' F' v H', Cells K F' H' C' → Fr H F C H' F' C' → Rep K F' v d → (∃ C'', CM.Sub C'' C' ∧ Q d C'') → QV v H') := fun d C' F' v H' ce1 f1 r1 ⟨C2, s2, q⟩ => k d C2 F' v H' (ce1.sub s2) (f1.sub s2) r1 q
theorem capsOf_all (ds : List D) : ∀ k : Nat, capsOf (ds.map fun d => some (Dv.dat d)) (List.range' k (ds.length - k)) = some (ds.drop k) := by
  intro k
  by_cases h : k < ds.length
  · obtain ⟨m, hm⟩ : ∃ m, ds.length - k = m + 1 := ⟨ds.length - k - 1, by omega⟩
    have ih := capsOf_all ds (k + 1)
    rw [hm, List.range'_succ]
    unfold capsOf
    rw [List.getElem?_map, List.getElem?_eq_getElem h]
    show (capsOf _ (List.range' (k + 1) m)).map _ = _
    rw [show m = ds.length - (k + 1) from by omega, ih]
    rw [List.drop_eq_getElem_cons h]; rfl
  · rw [show ds.length - k = 0 from by omega, List.drop_eq_nil_of_le (by omega)]; rfl
termination_by k => ds.length - k
theorem good_of (T : Tab tab nm) (W : Top K w mg cs tab nm) {n : Nat} {ex : ExP} (ih : ∀ j, j ≤ n → ∀ di ∈ tab, Keeps P w K mg base tab ex j di) {X : Cx} {N : List Str} {sc : Scope} {nst : Option (String × Scope)} {cl : List (Str × Addr)}
    (e1 : X.prog = P) (e2 : X.w = w) (e3 : X.K = K) (e4 : X.mg = mg) (e5 : X.base = base) (hN : X.N = N) (nd : N.Nodup) (hsc : X.env.scope = sc) (kind : sc.kind = .function) (calm : X.calm = true) (fn : ∀ x, X.fn x = true ∨ sc.names.lookup x ≠ some .cell)
    (xe : X.xe = fun _ _ => False) (room : Room n X.A) (gd : X.A.guards = some [])
    (ndf : ∀ mk s, nst = some (mk, s) → (∀ x, X.fn x = true) ∧ cl = cloFrom X.env.cells s.names [] ∧ ∀ nf, NfK X.K mk nf → nf.scope = s) :
    Good (cfgOf tab nm N sc nst) ⟨Gm (defsOf tab) n, { ex with cl := cl }⟩ n X := by
  subst e1 e2 e3 e4 e5
  refine { hN := hN, nd := nd, sc := hsc, kind := kind, calm := calm, fn := fun x h => ?_, xe := xe, room := room, gd := gd, blt := W.blt, fns := fun f k q => ?_, con := W.con, txt := W.txt, dct := W.dct, fld := W.fld, mth := fun cls m k q => ?_, mkc := fun cls k q => ?_, clo := fun mk nf hn => ?_, ndf := ndf }
  · rcases fn x with h1 | h1
    · exact .inl h1
    · rcases locB_inv h with h2 | h2
      · exact .inr h2
      · exact absurd h2 h1
  · have q : (f, k) ∈ sigsOf tab := by simpa [cfgOf] using q
    obtain ⟨dj, hj, ej⟩ := List.mem_filterMap.mp q
    split at ej
    · rename_i hk
      cases ej
      obtain ⟨fa, fd, h1, h2⟩ := (ih n (Nat.le_refl _) dj hj).1 hk
      refine ⟨fa, fd, dj.ps, h1.mgf, h1.fn.kp, h1.bs, ?_⟩
      simp only [Gm_cl]
      exact h2
    · cases ej
  · have q : (cls, m, k) ∈ mthsOf tab := by simpa [cfgOf] using q
    obtain ⟨dj, hj, ej⟩ := List.mem_filterMap.mp q
    split at ej
    · rename_i cls' m' hk
      cases ej
      obtain ⟨cad, fa, fd, h1, h2⟩ := (ih n (Nat.le_refl _) dj hj).2.1 cls m hk
      have hc := T.chk dj hj
      unfold chkDef at hc
      rw [hk] at hc
      have en : dj.name = methKey cls m := of_decide_eq_true (an (an hc).1).2
      refine ⟨cad, fa, fd, dj.ps, h1.ns, h1.cl, h1.me, h1.bs, ?_⟩
      simp only [Gm_cl, ← en]
      exact h2
    · cases ej
  · have q : (cls, k) ∈ clssOf tab := by simpa [cfgOf] using q
    obtain ⟨dj, hj, ej⟩ := List.mem_filterMap.mp q
    split at ej
    · rename_i hk
      cases ej
      obtain ⟨cad, hc⟩ := W.cls dj hj hk
      have hck := T.chk dj hj
      unfold chkDef at hck
      rw [hk] at hck
      obtain ⟨hck, c4⟩ := an (show (decide (dj.d.ns = dj.d.ps) && !decide (dj.name.toList.getLast? = some '/') && (match dj.d.body with | .cons (.mkc c) .nil => decide (c = dj.name) | _ => false) && tab.any (fun di => decide (di.name = methKey dj.name "__init__") && decide (di.kind = .meth dj.name "__init__"))) = true from hck)
      obtain ⟨hck, c3⟩ := an hck
      obtain ⟨c1, c2⟩ := an hck
      refine ⟨cad, hc.mgf, hc.kp, hc.ns, fun ds C Q g => ?_⟩
      simp only [Gm_cl] at g
      cases n with
      | zero => exact g.elim
      | succ j =>
        obtain ⟨d, q1, q2⟩ := g
        rw [lookup_defs T.nd hj] at q1
        cases q1
        obtain ⟨hl, hb⟩ := q2 []
        split at c3
        · rename_i c hbd
          have ec : c = dj.name := of_decide_eq_true c3
          subst ec
          rw [hbd] at hb
          obtain ⟨ds', hcap, hb2⟩ := (show ∃ ds', _ ∧ _ from hb)
          have e0 : dj.d.ns - dj.d.ps = 0 := by have := of_decide_eq_true c1; omega
          rw [e0] at hcap
          have hds : ds' = ds := by
            have h3 : capsOf (ds.map fun d => some (Dv.dat d)) (List.range (ds.map fun d => some (Dv.dat d)).length) = some ds := by
              rw [List.length_map, List.range_eq_range']
              have := capsOf_all ds 0
              rwa [Nat.sub_zero, List.drop_zero] at this
            rw [List.replicate_zero, List.append_nil, h3] at hcap
            cases hcap; rfl
          subst hds
          obtain ⟨di, hi, hq⟩ := List.any_eq_true.mp c4
          obtain ⟨i1, i2⟩ := an hq
          have en : di.name = methKey dj.name "__init__" := of_decide_eq_true i1
          obtain ⟨cad2, fi, fdi, h1, h2⟩ := (ih j (Nat.le_succ _) di hi).2.1 _ _ (of_decide_eq_true i2)
          have ecad : cad2 = cad := by have := h1.ns; rw [hc.ns] at this; cases this; rfl
          subst ecad
          refine ⟨j, fi, fdi, di.ps, fun ds' C' P' => ∃ P0, Gm (defsOf tab) j di.name ds' C' P0 ex ∧ ∀ d C2, P0 d C2 → ∃ C'', CM.Sub C'' C2 ∧ P' d C'', ⟨hc.mks, h1.me.at_, h1.me.fn, hc.kp⟩, room, h1.bs, h2.imp fun vs H Q' E ⟨F, C', ds2, P', ce, rs, ⟨P0, g0, hp⟩, k⟩ => ?_, fun a ha => ⟨fun d C2 => d = .non ∧ ∃ C'', CM.Sub C'' C2 ∧ Q (.ref a) C'', ?_, fun d C2 ⟨e, C3, s3, p3⟩ => ⟨C3, s3, e, p3⟩⟩⟩
          · exact ⟨F, C', ds2, P0, ce, rs, g0, fun d C2 F2 v H2 c2 f2 r2 p2 => by
              obtain ⟨C3, s3, p3⟩ := hp d C2 p2
              exact k d C3 F2 v H2 (c2.sub s3) (f2.sub s3) r2 p3⟩
          · have := hb2 a ha
            rw [← en] at this
            simp only [Gm_cl] at this
            exact this
        · exact ff c3
    · cases ej
  · cases e : (defsOf tab).lookup (cloKey mk) with
    | none =>
      constructor
      intro A out s H f us vs ws Q E _ _ _ _ _ _ _ ⟨F, C, ds, caps, P', _, _, _, g, _⟩
      cases n with
      | zero => exact (show False from g).elim
      | succ j =>
        obtain ⟨d, q1, _⟩ := g
        rw [e] at q1; cases q1
    | some d =>
      obtain ⟨di, hi, en, _⟩ := lookup_inv e
      have hc := T.chk di hi
      have kd : di.kind = .clo mk := by
        unfold chkDef at hc
        cases hk : di.kind with
        | fn =>
          rw [hk] at hc
          have z := (an (an hc).1).2
          rw [en, cloKey_last] at z; simp at z
        | meth cls m =>
          rw [hk] at hc
          have z := (an (an (an hc).1).1).2
          rw [en, cloKey_last] at z; simp at z
        | cls =>
          rw [hk] at hc
          have z := (an (an (an hc).1).1).2
          rw [en, cloKey_last] at z; simp at z
        | clo mk' =>
          rw [hk] at hc
          have z : di.name = cloKey mk' := of_decide_eq_true (an (an hc).1).2
          rw [en] at z
          rw [cloKey_inj z]
      have := (ih n (Nat.le_refl _) di hi).2.2 mk kd nf hn
      rw [en] at this
      simp only [Gm_cl]
      exact this
end
end M61

set_option Elab.async false
set_option linter.all false
set_option autoImplicit false
set_option maxRecDepth 100000
/-! M6b: every entry of the table keeps its promise. -/
namespace M61
open PySem PySem.Spec PyProof.Rows L2 NdefX LamX
section
variable {P : Program} {w : World} {K : PySem.W.Frag} {mg : Str → Option Value} {base : Heap} {cs : List (Addr × Addr)} {tab : List DefI} {nm : Nms}
theorem fun_okGc {x qual : Str} {st : Stmt} {f : Addr} {fd : FuncData} {N ps : List Str} {k : Nat} {sp : Sp} (F : Fun K x qual st f fd) (S : FnScope N ps (defScope st)) (len : ∀ vs H Q E, sp vs H Q E → vs.length = ps.length)
    (hb : ∀ (cdv : Value) (A : Around) (out : List Env) (s : Shared) (H : Hp) (vs : List V) (Q : VK) (E : XK), fd.code = cdv → A.guards = some [] → Room k (A.deeper (envOfC qual (defScope st) s.heap.objs.size f cdv)) → sp vs H Q E →
      ∃ t, PSs (cxOf CX0 P w K mg base N qual (defScope st) f cdv A out s H E).nox (defBody st) t ∧ t { nx := fun _ H' => Q .non H', rt := Q } (start N vs) H) : FnG P w K mg base CX0 (k + 1) f fd ps sp := by
  obtain ⟨oc, od, kV, doc, pm, an, cdv, ct, osl, rfl, lk, hcd⟩ := F.ex
  refine fn_ofG lk hcd S len fun A out s H vs Q E gd hr hsp => ?_
  obtain ⟨t, h, q⟩ := hb cdv A out s H vs Q E rfl gd hr hsp
  exact ⟨t, h.nox, q⟩
theorem nestSt_of {mk : String} {st s : Stmt} {r : List Stmt} {fa : Addr} {fd : FuncData} {x q : Str} (F : Fun K x q st fa fd) (ns : PySem.W.nsIn K mainGlobals (Str.ofString mk) = some (some (.ref fa))) (hb : defBody st = s :: r) : nestSt K mk = some s := by
  obtain ⟨oc, od, kV, doc, pm, an, cdv, ct, osl, rfl, lk, hcd⟩ := F.ex
  unfold nestSt
  rw [ns]
  dsimp only
  rw [lk]
  dsimp only
  rw [hb]
theorem nest0_of {st s : Stmt} {r : List Stmt} (hb : defBody st = s :: r) : nest0 st = s := by unfold nest0; rw [hb]; rfl
theorem keeps_succ (T : Tab tab nm) (W : Top K w mg cs tab nm) (TBs : ∀ p ∈ cs, TabB base mg p.1 p.2) {n : Nat} {ex : ExP} (ih : ∀ j, j ≤ n → ∀ di ∈ tab, Keeps P w K mg base tab ex j di) {di : DefI} (hd : di ∈ tab) : Keeps P w K mg base tab ex (n + 1) di := by
  have lk := lookup_defs T.nd hd
  have hc := T.chk di hd
  unfold chkDef at hc
  -- a plain body
  have plain : ∀ {fa : Addr} {fd : FuncData} {x q : Str}, Fun K x q di.st fa fd → FnScope di.N di.ps (defScope di.st) → di.d.ps = di.ps.length → di.d.ns = di.N.length → chkSs (cfgOf tab nm di.N (defScope di.st) none) di.d.body (defBody di.st) = true →
      FnG P w K mg base CX0 (n + 1) fa fd di.ps (spOf K fun ds C Q => Gm (defsOf tab) (n + 1) di.name ds C Q ex) := by
    intro fa fd x q hf S e2 e3 c5
    refine fun_okG hf S (fun vs H Q E ⟨F, C, ds, R, ce, rs, g, k⟩ => ?_) fun cdv A outer s H vs Q E gd hr ⟨F, C, ds, R, ce, rs, g, k⟩ => ?_
    · obtain ⟨d, q1, q2⟩ := g
      rw [lk] at q1
      cases q1
      obtain ⟨q2, _⟩ := q2 []
      rw [rs.length, q2, e2]
    · obtain ⟨d, q1, q2⟩ := g
      rw [lk] at q1
      cases q1
      obtain ⟨q2, q3⟩ := q2 []
      have G := good_of (nst := none) (cl := []) T W (ih) (X := (cxOf CX0 P w K mg base di.N q (defScope di.st) fa cdv A outer s H E).nox) rfl rfl rfl rfl rfl rfl S.nd rfl S.kind rfl (fun _ => .inl rfl) rfl hr gd (fun _ _ z => nomatch z)
      refine ⟨_, okSs di.d.body _ _ G _ c5, ⟨H, F, C⟩, F, _, C, _, start_rel' ce rs (by rw [q2, e3]), q3, fun ρ' C' F' σ' H' s1 R1 q => ?_, rt_sub k, fun _ _ _ _ _ _ _ q => q.elim, fun _ _ _ _ _ _ _ q => q.elim⟩
      obtain ⟨C2, s2, q⟩ := q
      exact k .non C2 F' .non H' (R1.ce.sub s2) (R1.fr.sub s2) .non q
  refine ⟨fun hk => ?_, fun cls m hk => ?_, fun mk hk nf hn => ?_⟩
  · rw [hk] at hc
    obtain ⟨fa, fd, h, hN⟩ := W.fns di hd hk
    refine ⟨fa, fd, h, ?_⟩
    obtain ⟨hc, c5⟩ := an hc
    obtain ⟨hc, _⟩ := an hc
    obtain ⟨hc, c4⟩ := an hc
    obtain ⟨hc, c3⟩ := an hc
    obtain ⟨c1, c2⟩ := an hc
    have e2 := of_decide_eq_true c2
    have e3 := of_decide_eq_true c3
    have S := scB_inv c1
    unfold chkBody at c5
    split at c5
    · -- a maker
      rename_i mk js hbd
      obtain ⟨c5, m6⟩ := an c5
      obtain ⟨c5, m5⟩ := an c5
      obtain ⟨c5, m4⟩ := an c5
      obtain ⟨c5, m3⟩ := an c5
      obtain ⟨m1, m2⟩ := an c5
      have emk : mk = di.name := of_decide_eq_true m1
      subst emk
      obtain ⟨s0, p2, p3, eb⟩ := isMkr_inv m2
      have e0 := nest0_of eb
      obtain ⟨⟨⟨pos, sh⟩, d0, k0, ann⟩, cA, Pt, hcs, hcd, hT⟩ := hN (by unfold isNest; rw [hbd])
      rw [e0] at sh d0 k0 ann hT m3 m4 m5 m6
      obtain ⟨m3, m33⟩ := an (show ((C8.fnScope s0).names.all (fun y => !decide (y.2 = .free) || decide ((defScope di.st).names.lookup y.1 = some .cell) || decide ((defScope di.st).names.lookup y.1 = some .free)) && (freeOf (C8.fnScope s0)).all (fun y => decide ((y, NameKind.free) ∈ (C8.fnScope s0).names)) && decide (js.map (fun j => di.N[j]?) = (freeOf (C8.fnScope s0)).map some)) = true from m3)
      obtain ⟨m31, m32⟩ := an m3
      split at m4
      · rename_i i hi0
        obtain ⟨i1, i2⟩ := an m4
        obtain ⟨p5, p6, _⟩ := plainNm_inv m6
        have eb2 : defBody di.st = [.FunctionDef (stName s0) (C8.fnArgs s0) (C8.fnBody s0) [] none [] (C8.fnScope s0) none (stName s0) pos, .Return (some (.Name (stName s0) p2)) p3] := by rw [eb, e0]; (conv => lhs; rw [sh]); rfl
        have base0 := fn_mkr (P := P) (w := w) (mk := di.name) (js := js) (i := i) (k := n) h.fn S eb2 (TBs _ hcs) hcd hT rfl (fun cl c' => ⟨s0, nestSt_of h.fn h.ns eb, rfl⟩) (fun y hy e => ?_) (fun y hy => of_decide_eq_true (List.all_eq_true.mp m32 y hy)) (of_decide_eq_true m33) (by simpa using i2) d0 k0 ann (of_decide_eq_true i1) (of_decide_eq_true m5) p5 p6
        · refine base0.imp fun vs H Q E ⟨F, C, ds, R, ce, rs, g, k⟩ => ?_
          obtain ⟨d, q1, q2⟩ := g
          rw [lk] at q1
          cases q1
          obtain ⟨q2, q3⟩ := q2 []
          rw [hbd] at q3
          obtain ⟨caps, q3, q4⟩ := (show ∃ caps, _ ∧ _ from q3)
          refine ⟨F, C, ds, fun d C' => ∃ C'', CM.Sub C'' C' ∧ R d C'', ce, rs, ⟨by rw [q2, e2], caps, ?_, q4⟩, rt_sub k⟩
          rw [← q3, e3, e2]
        · have z := List.all_eq_true.mp m31 y hy
          rw [e] at z
          simp only [decide_true, Bool.not_true, Bool.false_or, Bool.or_eq_true, decide_eq_true_eq] at z
          exact z
      · exact ff m4
    · -- a def that makes one and goes on
      rename_i i mk rest hbd
      obtain ⟨m1, m2⟩ := an c5
      have emk : mk = di.name := of_decide_eq_true m1
      subst emk
      split at m2
      · rename_i s0 sts eb
        have e0 := nest0_of eb
        obtain ⟨⟨⟨pos, sh⟩, d0, k0, ann⟩, cA, Pt, hcs, hcd, hT⟩ := hN (by unfold isNest; rw [hbd])
        rw [e0] at sh d0 k0 ann hT m2
        obtain ⟨m2, m6⟩ := an m2
        obtain ⟨m2, m5⟩ := an m2
        obtain ⟨m3, m4⟩ := an m2
        have loc : (defScope di.st).names.lookup (stName s0) = some .local := of_decide_eq_true m4
        have hfree : ∀ y ∈ (C8.fnScope s0).names, y.2 = .free → (defScope di.st).names.lookup y.1 = some .cell ∨ (defScope di.st).names.lookup y.1 = some .free := fun y hy e => by
          have z := List.all_eq_true.mp m5 y hy
          rw [e] at z
          simp only [decide_true, Bool.not_true, Bool.false_or, Bool.or_eq_true, decide_eq_true_eq] at z
          exact z
        refine fun_okGc h.fn S (fun vs H Q E ⟨F, C, ds, R, ce, rs, g, k⟩ => ?_) fun cdv A outer s H vs Q E ecd gd hr ⟨F, C, ds, R, ce, rs, g, k⟩ => ?_
        · obtain ⟨d, q1, q2⟩ := g
          rw [lk] at q1
          cases q1
          obtain ⟨q2, _⟩ := q2 []
          rw [rs.length, q2, e2]
        · rw [hcd] at ecd
          subst ecd
          obtain ⟨d, q1, q2⟩ := g
          rw [lk] at q1
          cases q1
          obtain ⟨q2, q3⟩ := q2 (cloFrom (cellsFrom (s.heap.objs.size + 1) (defScope di.st).names []) (C8.fnScope s0).names [])
          have nsto := nestSt_of h.fn h.ns eb
          have G := good_of (nst := some (di.name, C8.fnScope s0)) (cl := cloFrom (cellsFrom (s.heap.objs.size + 1) (defScope di.st).names []) (C8.fnScope s0).names []) T W (ih) (X := (cxOf CX0 P w K mg base di.N (Str.ofString di.name) (defScope di.st) fa (.ref cA) A outer s H E).nox) rfl rfl rfl rfl rfl rfl S.nd rfl S.kind rfl (fun _ => .inl rfl) rfl hr gd
            (fun mk' sc' z => by
              cases z
              refine ⟨fun _ => rfl, rfl, fun nf hnf => ?_⟩
              obtain ⟨st2, g1, g2⟩ := hnf.ex
              have g3 : nestSt K di.name = some st2 := g1
              rw [nsto] at g3
              cases g3
              rw [g2]; rfl)
          have first := ps_ndR (X := (cxOf CX0 P w K mg base di.N (Str.ofString di.name) (defScope di.st) fa (.ref cA) A outer s H E).nox) (i := i) (pos := pos) (body := C8.fnBody s0) (TBs _ hcs) rfl hfree d0 k0 (ann _) S.nd (of_decide_eq_true m3) (.inl loc) (.inl rfl)
          have st1 := s_ndef (X := (cxOf CX0 P w K mg base di.N (Str.ofString di.name) (defScope di.st) fa (.ref cA) A outer s H E).nox) (mk := di.name) (q := nestQual di.name s0) (cl := cloFrom (cellsFrom (s.heap.objs.size + 1) (defScope di.st).names []) (C8.fnScope s0).names []) hT (fun c' => ⟨s0, nsto, rfl⟩) (fun _ => rfl) (fun _ => rfl) (fun _ => rfl) first
          rw [← sh] at st1
          have body := ss_cons (ms := denS ⟨Gm (defsOf tab) n, { ex with cl := cloFrom (cellsFrom (s.heap.objs.size + 1) (defScope di.st).names []) (C8.fnScope s0).names [] }⟩ (.ndef i di.name)) (mss := denSs ⟨Gm (defsOf tab) n, { ex with cl := cloFrom (cellsFrom (s.heap.objs.size + 1) (defScope di.st).names []) (C8.fnScope s0).names [] }⟩ rest) st1 (okSs rest _ _ G sts m6)
          rw [← eb] at body
          rw [hbd] at q3
          refine ⟨_, body, ⟨H, F, C⟩, F, _, C, _, start_rel' ce rs (by rw [q2, e3]), q3, fun ρ' C' F' σ' H' s1 R1 q => ?_, rt_sub k, fun _ _ _ _ _ _ _ q => q.elim, fun _ _ _ _ _ _ _ q => q.elim⟩
          obtain ⟨C2, s2, q⟩ := q
          exact k .non C2 F' .non H' (R1.ce.sub s2) (R1.fr.sub s2) .non q
      · exact ff m2
    · exact plain h.fn S e2 e3 c5
  · rw [hk] at hc
    obtain ⟨cad, fa, fd, h⟩ := W.mts di hd cls m hk
    refine ⟨cad, fa, fd, h, ?_⟩
    obtain ⟨hc, c5⟩ := an hc
    obtain ⟨hc, _⟩ := an hc
    obtain ⟨hc, _⟩ := an hc
    obtain ⟨hc, c4⟩ := an hc
    obtain ⟨hc, c3⟩ := an hc
    obtain ⟨c1, c2⟩ := an hc
    exact plain h.fn (scB_inv c1) (of_decide_eq_true c2) (of_decide_eq_true c3) c5
  · rw [hk] at hc
    obtain ⟨hst, hbind⟩ := W.clo di hd mk hk
    obtain ⟨hc, c5⟩ := an hc
    obtain ⟨hc, c4⟩ := an hc
    obtain ⟨hc, c3⟩ := an hc
    obtain ⟨c1, c2⟩ := an hc
    have e2 := of_decide_eq_true c2
    have e3 := of_decide_eq_true c3
    obtain ⟨st2, g1, g2⟩ := hn.ex
    rw [hst] at g1
    cases g1
    have esc : nf.scope = C8.fnScope di.st := by rw [g2]; rfl
    have ebd : nf.body = C8.fnBody di.st := by rw [g2]; rfl
    have S : NScope di.N di.ps (freeOf nf.scope) nf.scope := by rw [esc]; exact nscope_by c1
    refine nok_ofG S (fun doc pm ctv us hl => by rw [g2]; exact hbind _ _ _ _ doc pm ctv us hl) (fun ws vs H Q E wl ⟨F, C, ds, caps, R, ce, rs, rc, g, k⟩ => ?_) fun A out s H f vs ws Q E gd hr wl ⟨F, C, ds, caps, R, ce, rs, rc, g, k⟩ => ?_
    · obtain ⟨d, q1, q2⟩ := g
      rw [lk] at q1
      cases q1
      obtain ⟨q2, _⟩ := q2 []
      rw [List.length_append, ← rs.length, ← rc.length, wl, esc, e2] at q2
      omega
    · obtain ⟨d, q1, q2⟩ := g
      rw [lk] at q1
      cases q1
      obtain ⟨q2, q3⟩ := q2 []
      have G := good_of (nst := none) (cl := []) T W (ih) (X := (ncx CX0 P w K mg base di.N nf f A out s H E).nox) (sc := C8.fnScope di.st) rfl rfl rfl rfl rfl rfl S.nd esc (by rw [← esc]; exact S.kind) rfl (fun x => .inr fun z => S.nocell _ (by rw [esc]; exact PySem.mem_of_lookup z) rfl) rfl hr gd (fun _ _ z => nomatch z)
      have es : startF di.N vs (ws.map some) = start di.N (vs ++ ws) := by
        show vs.map some ++ (ws.map some ++ List.replicate (di.N.length - vs.length - (ws.map some).length) none) = (vs ++ ws).map some ++ List.replicate (di.N.length - (vs ++ ws).length) none
        rw [List.map_append, List.append_assoc, List.length_map, List.length_append, Nat.sub_sub]
      rw [es, ebd]
      have body := okSs di.d.body _ _ G _ c5
      refine ⟨_, PSs.nox body, ⟨H, F, C⟩, F, _, C, _, start_rel' ce (rs.append rc) (by rw [q2, e3]), q3, fun ρ' C' F' σ' H' s1 R1 q => ?_, rt_sub k, fun _ _ _ _ _ _ _ q => q.elim, fun _ _ _ _ _ _ _ q => q.elim⟩
      obtain ⟨C2, s2, q⟩ := q
      exact k .non C2 F' .non H' (R1.ce.sub s2) (R1.fr.sub s2) .non q
/-- every entry of the table keeps its promise -/
theorem tab_ok (T : Tab tab nm) (W : Top K w mg cs tab nm) (TBs : ∀ p ∈ cs, TabB base mg p.1 p.2) (ex : ExP) : ∀ (n j : Nat), j ≤ n → ∀ di ∈ tab, Keeps P w K mg base tab ex j di
  | n, 0, _, di, hd => by
    refine ⟨fun hk => ?_, fun cls m hk => ?_, fun mk hk nf hn => ?_⟩
    · obtain ⟨fa, fd, h, _⟩ := W.fns di hd hk
      exact ⟨fa, fd, h, fun vs H Q E ⟨F, C, ds, R, ce, rs, g, k⟩ => g.elim, fun A outer s H args us vs Q E _ _ _ _ _ ⟨F, C, ds, R, ce, rs, g, k⟩ => g.elim⟩
    · obtain ⟨cad, fa, fd, h⟩ := W.mts di hd cls m hk
      exact ⟨cad, fa, fd, h, fun vs H Q E ⟨F, C, ds, R, ce, rs, g, k⟩ => g.elim, fun A outer s H args us vs Q E _ _ _ _ _ ⟨F, C, ds, R, ce, rs, g, k⟩ => g.elim⟩
    · exact ⟨fun A out s H f us vs ws Q E _ _ _ _ _ _ _ ⟨F, C, ds, caps, R, _, _, _, g, _⟩ => g.elim⟩
  | 0, j + 1, h, _, _ => absurd h (by omega)
  | n + 1, j + 1, h, di, hd => keeps_succ T W TBs (fun i hi => tab_ok T W TBs ex n i (by omega)) hd
end
end M61

set_option Elab.async false
set_option linter.all false
set_option autoImplicit false
set_option maxRecDepth 100000
/-! M7: a law from its pure form. -/
namespace M61
open PySem PySem.Spec PyProof.Rows L2
theorem reps_of_ints (K : PySem.W.Frag) (F : Hp) : ∀ ns : List Int, Reps K F (ns.map V.int) (ns.map D.int)
  | [] => .nil
  | _ :: ns => .cons (.int _) (reps_of_ints K F ns)
/-- nothing is wanted of exceptions -/
def exF : ExP := ⟨fun _ _ => False, []⟩
/-- the heap without its tables -/
def noTb (H : Hp) : Hp := fun a => match H a with
  | some (.tbl _) => none
  | o => o
theorem noTb_some {H : Hp} {a : Addr} {o : HO} (h : noTb H a = some o) : H a = some o := by
  unfold noTb at h
  split at h
  · cases h
  · exact h
theorem start_of {K : PySem.W.Frag} {tb : List (String × Def)} {k : Nat} {H : Hp} {a : Addr} {ns : List Int} (hT : ∀ P q, (tabsK K).lookup P = some q → H P = some (.tbl #[])) (hS : SqL K H a (ns.map V.int))
    (h : Gm tb k "law" [.scr (ns.map .int)] (fun _ => none) (fun d _ => d = .bl true) exF) : spOf K (fun ds C Q => Gm tb k "law" ds C Q exF) [.ref a] H (fun v _ => v = .bl true) (fun _ _ _ => False) := by
  have hS2 : SqL K (noTb H) a (ns.map V.int) := by
    rcases hS with (q | ⟨o, q⟩) | q
    · exact .inl (.inl (by unfold noTb; rw [q]))
    · exact .inl (.inr ⟨o, by unfold noTb; rw [q]⟩)
    · exact .inr q
  refine ⟨noTb H, fun _ => none, _, _, ⟨fun b o q => noTb_some q, fun _ _ q => (nomatch q), fun P q e => ?_⟩, .cons (.scr hS2 (reps_of_ints K _ ns)) .nil, h, fun d C' F' v H' _ _ r q => by subst q; cases r; rfl⟩
  have hp := hT P q e
  refine ⟨by unfold noTb; rw [hp], #[], hp, True.intro, fun pos cv hc => ?_⟩
  have z : codeAmong pos [] = some cv := hc
  simp [codeAmong] at z
section
variable {Pr : Program} {wd : World} {K : PySem.W.Frag} {mg : Str → Option Value}
/-- the law's own call, with tables: cs, code objects and their tables -/
theorem law_callGT {mb : Str → Option Value} {CX : CXT} {k : Nat} {fa a : Addr} {cs : List (Addr × Addr)} {fd : FuncData} {x : Str} {sp : Sp} {s1 : Shared} {vs : List Value} {ns : List Int}
    (KX : K.In s1.heap) (hns : s1.heap.Ns mainGlobals mg) (hb : s1.heap.Ns builtinsNs mb) (hbb : ∀ x : Str, x ≠ "__name__" → mb x = bootBuiltins x) (lim : s1.heap.NoLimit) (hg : s1.gens = #[])
    (hT : ∀ p ∈ cs, s1.heap.get? p.2 = some { cls := .none, data := .fields #[] }) (nT : ∀ p ∈ cs, K.lookup p.2 = none) (hC : ∀ p ∈ cs, PySem.W.CodeHd s1.heap p.1 p.2)
    (hbm : ∃ (bm : Addr) (ob : Obj), mg "__builtins__" = some (.ref bm) ∧ bm ≠ builtinsNs ∧ s1.heap.get? bm = some ob ∧ ob.cls = .type "module" ∧ ob.dict = some builtinsNs ∧ ob.data = .plain)
    (ha : s1.heap.get? a = some { cls := .type "list", data := .seq vs.toArray }) (hi : IntsAre vs ns) (hl : ns.length ≤ sizeLine) (hr : Room k callerA)
    (F : ∀ base : Heap, K.In base → base.Ns mainGlobals mg → (∀ p ∈ cs, LamX.TabB base mg p.1 p.2) → FnG Pr wd K mg base CX k fa fd [x] sp) (bind : ∀ (s : Shared) (u : Value), BindsTo s fd ⟨[u], []⟩ [(x, u)])
    (hsp : ∀ H : Hp, (∀ p ∈ cs, H p.2 = some (.tbl #[])) → SqL K H a (ns.map V.int) → sp [.ref a] H (fun v _ => v = .bl true) fun _ _ _ => False)
    (hCX : ∀ H e s', CX [] H s1 (fun _ _ _ => False) e s' → False) :
    codeAny (model Pr wd) callerA (.call (.ref fa) ⟨[.ref a], []⟩) (fun r s' => r = .ok (.ret (.bool true)) ∧ OldK s1.heap s'.heap ∧ s'.os = s1.os ∧ AllBare s'.gens) s1 := by
  have rv := vals_ints hi
  have lenV := hi.length
  let TS := cs.map (·.2)
  have tab_at : ∀ b ∈ TS, s1.heap.get? b = some { cls := .none, data := .fields #[] } := fun b hb => by
    obtain ⟨p, hp, rfl⟩ := List.mem_map.mp hb
    exact hT p hp
  have inT : ∀ p ∈ cs, p.2 ∈ TS := fun p hp => List.mem_map_of_mem hp
  have scr_out : a ∉ TS := fun z => by
    have q := tab_at a z
    rw [ha] at q
    exact nomatch (show Data.seq vs.toArray _ = Data.fields #[] from congrArg Obj.data (Option.some.inj q))
  have core : ∀ H : Hp, (∀ p ∈ cs, H p.2 = some (.tbl #[])) → (∀ b, H b = none ∨ b ∈ TS ∨ ∃ o xs, H b = some (.frz o (.lst xs))) → SqL K H a (ns.map V.int) → HOk Pr wd H s1.heap → (∀ b, H b ≠ none → b = a ∨ b ∈ TS) → (H a ≠ none → K.lookup a = none) →
      codeAny (model Pr wd) callerA (.call (.ref fa) ⟨[.ref a], []⟩) (fun r s' => r = .ok (.ret (.bool true)) ∧ OldK s1.heap s'.heap ∧ s'.os = s1.os ∧ AllBare s'.gens) s1 := by
    intro H hH hO hS hok only hK
    have at_ : ∀ {b : Addr} {o : Obj}, s1.heap.get? b = some o → H b = none → (hidT s1.heap H).get? b = some o := fun e n => hidT_get e n
    have clear : ∀ {b : Addr} {o : Obj}, s1.heap.get? b = some o → (∀ us n, o.data ≠ .seq us n) → o.data ≠ .fields #[] → H b = none := by
      intro b o e n1 n2
      by_cases q : H b = none
      · exact q
      · rcases only b q with rfl | q
        · rw [ha] at e; cases e; exact absurd rfl (n1 _ _)
        · rw [tab_at b q] at e; cases e; exact absurd rfl n2
    have freeD : ∀ {b : Addr} {o : Obj} {es : Array DictEntry} {ep : Nat}, s1.heap.get? b = some o → o.data = .dict es ep → H b = none := fun e d => clear e (fun us n z => nomatch d.symm.trans z) fun z => nomatch d.symm.trans z
    have nsK : ∀ {b : Addr} {m : Str → Option Value}, s1.heap.Ns b m → (hidT s1.heap H).Ns b m := by
      rintro b m ⟨o, es, ep, e, d, r⟩
      exact ⟨o, es, ep, at_ e (freeD e d), d, r⟩
    have inK : K.In (hidT s1.heap H) := by
      intro b o e
      refine at_ (KX b o e) ?_
      by_cases q : H b = none
      · exact q
      · rcases only b q with rfl | z
        · rw [hK q] at e; cases e
        · obtain ⟨p, hp, rfl⟩ := List.mem_map.mp z
          rw [nT p hp] at e; cases e
    have md : Mod K mg (hidT s1.heap H) := ⟨inK, nsK hns, ⟨mb, nsK hb, hbb⟩, let ⟨mc, z1, z2⟩ := lim; ⟨mc, nsK z1, z2⟩⟩
    have tabB : ∀ p ∈ cs, LamX.TabB (hidT s1.heap H) mg p.1 p.2 := by
      intro p hp
      have tp := hT p hp
      refine ⟨?_, ?_, fun z => ?_⟩
      · obtain ⟨o, us, file, tf, fl, tg, inF, txt, tt, e1, r1, r2, r3, rr⟩ := hC p hp
        exact ⟨o, us, file, tf, fl, tg, inF, txt, tt, at_ e1 (clear e1 (fun vs n z => nomatch r2.symm.trans z) fun z => by rw [r2] at z; cases z; simp at r3), r1, r2, r3, rr⟩
      · obtain ⟨bm, ob, b1, b2, b3, b4, b5, b6⟩ := hbm
        refine ⟨bm, ob, b1, b2, fun q => ?_, fun q => ?_, at_ b3 (clear b3 (fun vs n z => nomatch b6.symm.trans z) fun z => nomatch b6.symm.trans z), b4, b5, b6⟩
        · obtain ⟨o, es, ep, e, hd, _⟩ := hns
          rw [q, e] at b3; cases b3
          exact nomatch hd.symm.trans b6
        · rw [q, tp] at b3; cases b3; cases b6
      · obtain ⟨o, es, ep, e, hd, _⟩ := hns
        rw [z, tp] at e; cases e; cases hd
    have en : Env0 Pr wd K mg (hidT s1.heap H) callerA [] s1 H := ⟨rfl, md, fun b o e => of_hidT e, Nat.le_of_eq (hidT_size _ _), trivial, fun b hb => (nomatch (show b ∈ ([] : List Addr) from hb)), hok, .of_eq hg⟩
    refine codeAny_mono ((F _ inK (nsK hns) tabB).run callerA [] s1 H ⟨[.ref a], []⟩ [.ref a] [.ref a] _ _ rfl hr en (bind s1 (.ref a)) (.cons rfl .nil) (hsp H hH hS)) fun z s' h => ?_
    rcases z with e | fl
    · exact (hCX H e s' h).elim
    · cases fl
      case ret u =>
        obtain ⟨v, H', os, bare, un, hok', r', q⟩ := h
        obtain rfl : v = .bl true := q
        obtain rfl : u = Value.bool true := r'
        have same : ∀ b o, b ∉ TS → s1.heap.get? b = some o → s'.heap.get? b = some o := by
          intro b o nb e
          by_cases q : H b = none
          · exact un.keep b o e q (fun z => nomatch (show b ∈ ([] : List Addr) from z)) (by simp)
          · rcases hO b with z | z | ⟨ob, xs, z⟩
            · exact absurd z q
            · exact absurd z nb
            · have z2 := un.frzs b ob _ z
              have e1 := (hok b _ z).1
              have e2 := (hok' b _ z2).1
              rw [e] at e1; cases e1; exact e2
        have grew : ∀ p ∈ cs, ∃ more : Array Value, s'.heap.get? p.2 = some { cls := .none, data := .fields more } := fun p hp => by
          obtain ⟨more, z⟩ := un.tbls p.2 #[] (hH p hp)
          exact ⟨_, hok' p.2 _ z⟩
        refine ⟨rfl, ⟨fun b o e => ?_, fun b o e => ?_⟩, os, bare⟩
        · by_cases hb : b ∈ TS
          · obtain ⟨p, hp, rfl⟩ := List.mem_map.mp hb
            obtain ⟨more, hm⟩ := grew p hp
            have e2 := e
            rw [hT p hp] at e2; cases e2
            refine Or.inr (Or.inl ⟨((hC p hp).tab (hT p hp)).isCodeTable, rfl, #[], more, rfl, ?_⟩)
            rw [Array.empty_append]; exact hm
          · exact Or.inl (same b o hb e)
        · by_cases hb : b ∈ TS
          · obtain ⟨p, hp, rfl⟩ := List.mem_map.mp hb
            obtain ⟨more, hm⟩ := grew p hp
            exact ⟨_, hm⟩
          · exact ⟨o, same b o hb e⟩
      all_goals exact False.elim h
  let HT : Hp := fun b => if b ∈ TS then some (.tbl #[]) else none
  have HT_in : ∀ {b : Addr}, b ∈ TS → HT b = some (.tbl #[]) := fun h => if_pos h
  have HT_out : ∀ {b : Addr}, b ∉ TS → HT b = none := fun h => if_neg h
  by_cases hk : K.lookup a = none
  · let H : Hp := upd HT a (.frz { cls := .type "list", data := .seq vs.toArray } (.lst (ns.map V.int)))
    refine core H (fun p hp => ?_) (fun b => ?_) (.inl (.inr ⟨{ cls := .type "list", data := .seq vs.toArray }, upd_same⟩)) (fun b u z => ?_) (fun b z => ?_) fun _ => hk
    · show upd HT a _ p.2 = _
      rw [upd_ne (fun z => scr_out (by rw [← z]; exact inT p hp))]
      exact HT_in (inT p hp)
    · by_cases q : b = a
      · subst q; exact Or.inr (Or.inr ⟨_, _, upd_same⟩)
      · by_cases q2 : b ∈ TS
        · exact Or.inr (Or.inl q2)
        · refine Or.inl ?_
          show upd HT a _ b = none
          rw [upd_ne q]; exact HT_out q2
    · by_cases q : b = a
      · subst q
        have z' : upd HT b _ b = some u := z
        rw [upd_same] at z'; cases z'
        exact ⟨ha, by rw [List.length_map]; exact hl, vs, _, rv, ha⟩
      · have z' : upd HT a _ b = some u := z
        rw [upd_ne q] at z'
        by_cases q2 : b ∈ TS
        · rw [HT_in q2] at z'; cases z'
          exact tab_at b q2
        · rw [HT_out q2] at z'; cases z'
    · by_cases q : b = a
      · exact Or.inl q
      · refine Or.inr ?_
        by_cases q2 : b ∈ TS
        · exact q2
        · refine absurd ?_ z
          show upd HT a _ b = none
          rw [upd_ne q]; exact HT_out q2
  · obtain ⟨o, hk⟩ : ∃ o, K.lookup a = some o := by
      cases e : K.lookup a with
      | none => exact absurd e hk
      | some o => exact ⟨o, rfl⟩
    have e := KX a o hk
    rw [ha] at e; cases e
    refine core HT (fun p hp => HT_in (inT p hp)) (fun b => ?_) (Or.inr ⟨_, vs.toArray, _, hk, rfl, rfl, rfl, by rw [List.size_toArray, lenV]; exact hl, by simpa using rv⟩) (fun b u z => ?_) (fun b z => ?_) fun z => absurd (HT_out scr_out) z
    · by_cases q2 : b ∈ TS
      · exact Or.inr (Or.inl q2)
      · exact Or.inl (HT_out q2)
    · by_cases q2 : b ∈ TS
      · rw [HT_in q2] at z; cases z
        exact tab_at b q2
      · rw [HT_out q2] at z; cases z
    · by_cases q2 : b ∈ TS
      · exact Or.inr q2
      · exact absurd (HT_out q2) z
end
theorem tabs_one {K : PySem.W.Frag} {h : Heap} (_X : K.In h) {P : Addr} {q : Str} (e : tabsK K = [(P, q)]) : tabsK K = [(P, q)] := e
theorem tabs_none {K : PySem.W.Frag} {h : Heap} (_X : K.In h) (e : tabsK K = []) : tabsK K = [] := e
theorem tabs_two {K : PySem.W.Frag} {h : Heap} (_X : K.In h) {P P' : Addr} {q q' : Str} (e : tabsK K = [(P, q), (P', q')]) : tabsK K = [(P, q), (P', q')] := e
theorem lookup_of {P : Addr} {q : Str} {l : List (Addr × Str)} (i : Nat) (h : l[i]? = some (P, q)) (n : ∀ j, j < i → ∀ x, l[j]? = some x → x.1 ≠ P) : l.lookup P = some q := by
  induction l generalizing i with
  | nil => simp at h
  | cons a l ih =>
    rw [List.lookup_cons]
    cases i with
    | zero =>
      simp at h
      subst h
      simp
    | succ i =>
      have ne : a.1 ≠ P := n 0 (Nat.succ_pos _) a rfl
      rw [show (P == a.1) = false from by simpa using fun z => ne z.symm]
      exact ih i (by simpa using h) fun j hj x hx => n (j + 1) (by omega) x (by simpa using hx)
theorem lookup_eq {L l : List (Addr × Str)} (e : L = l) {P : Addr} {q : Str} (i : Nat) (h : l[i]? = some (P, q)) (n : ∀ j, j < i → ∀ x, l[j]? = some x → x.1 ≠ P) : L.lookup P = some q := by
  subst e; exact lookup_of i h n
theorem mem_lk {P : Addr} {q : Str} : ∀ {l : List (Addr × Str)}, l.lookup P = some q → (P, q) ∈ l
  | [], h => by cases h
  | a :: l, h => by
    rw [List.lookup_cons] at h
    by_cases e : P = a.1
    · rw [show (P == a.1) = true from by simpa using e] at h
      cases h
      rw [e]; exact List.mem_cons_self
    · rw [show (P == a.1) = false from by simpa using e] at h
      exact List.mem_cons_of_mem _ (mem_lk h)
theorem tabs_in {cs : List (Addr × Addr)} {l : List (Addr × Str)} (e : l.map (·.1) = cs.map (·.2)) {P : Addr} {q : Str} (h : l.lookup P = some q) : ∃ p ∈ cs, p.2 = P := by
  have : P ∈ l.map (·.1) := List.mem_map.mpr ⟨(P, q), mem_lk h, rfl⟩
  rw [e] at this
  exact List.mem_map.mp this
/-- a law's end -/
theorem walk_ofGT {l : PySem.W.OpenLaw} {n k : Nat} {q : Program} {loose : List Str} {XP : (Str → Option Value) → Heap → Prop} {YP : World → Heap → Prop} {d : DefRec} {K : Params → PySem.W.Frag} {CX : World → CXT} {sp : World → Sp} {x : Str}
    (hn : l.most = some n) (hn2 : n ≤ sizeLine) (hdf : d.params.defaults = []) (hr : Room k callerA)
    (hY : ∀ (w : World) (h : Heap), YP w h → (K w.params).In h)
    (F : ∀ (w : World) (mg : Str → Option Value) (fa : Addr) (h : Heap), YP w h → (K w.params).In h → h.Ns mainGlobals mg → mg d.name = some (.ref fa) →
      ∃ (fd : FuncData) (cs : List (Addr × Addr)), (∀ p ∈ cs, h.get? p.2 = some { cls := .none, data := .fields #[] }) ∧ (∀ p ∈ cs, (K w.params).lookup p.2 = none) ∧ (∀ p ∈ cs, PySem.W.CodeHd h p.1 p.2) ∧
        (∀ P q, (tabsK (K w.params)).lookup P = some q → ∃ p ∈ cs, p.2 = P) ∧ (∀ (s : Shared) (u : Value), BindsTo s fd ⟨[u], []⟩ [(x, u)]) ∧
        ∀ base : Heap, (K w.params).In base → base.Ns mainGlobals mg → (∀ p ∈ cs, LamX.TabB base mg p.1 p.2) → FnG l.prog w (K w.params) mg base (CX w) k fa fd [x] (sp w))
    (hsp : ∀ (w : World) (H : Hp) (a : Addr) (ns : List Int), ns.length ≤ n → (∀ P q, (tabsK (K w.params)).lookup P = some q → H P = some (.tbl #[])) → SqL (K w.params) H a (ns.map V.int) → sp w [.ref a] H (fun v _ => v = .bl true) fun _ _ _ => False)
    (hCX : ∀ (w : World) (H : Hp) (s : Shared) (e : Value) (s' : Shared), CX w [] H s (fun _ _ _ => False) e s' → False) :
    PySem.W.WalkO q loose XP YP l.row.toRowW d [] (fun f vs => PySem.call f vs) := by
  refine Att.attach_call hn hdf ?_
  intro w s0 s1 mg mb fa o pm cd doc a vs ns G Y ho hd hcd hmg hobj hints hlen hg
  obtain ⟨fd, cs, hT, nT, hC, hTK, hb, hF⟩ := F w mg fa _ Y (hY w _ Y) G.T.g hmg
  exact law_callGT (hY w _ Y) G.T.g G.T.b G.T.builtins G.T.nolimit hg hT nT hC G.T.bmain hobj hints (Nat.le_trans hlen hn2) hr hF hb (fun H hH hS => hsp w H a ns hlen (fun P q e => by obtain ⟨p, hp, rfl⟩ := hTK P q e; exact hH p hp) hS) fun H e s' => hCX w H s1 e s'
end M61

set_option Elab.async false
set_option linter.all false
set_option autoImplicit false
set_option maxRecDepth 100000
namespace M61.k27
open PySem PySem.Spec PyProof.Rows L2
def iLooker_init : Def := ⟨4, 4,
  (.cons (.fset "Looker" "look" (.var 0) (.var 1))
  (.cons (.fset "Looker" "stretches" (.var 0) (.var 2))
  (.cons (.fset "Looker" "is_about" (.var 0) (.cmp .eq (.var 3) (.str "last")))
  (.cons (.fset "Looker" "columns" (.var 0) (.bin .add (.ix (.ix (.var 2) (.neg (.int 1))) (.int 1)) (.int 1)))
  (.cons (.fset "Looker" "seen" (.var 0) .dnt)
  .nil)))))⟩
def iLooker_number_at : Def := ⟨3, 4,
  (.cons (.set 3 (.fld "Looker" "look" (.var 0)))
  (.cons (.ife (.dnin (.cons (.var 1) (.cons (.var 2) .nil)) (.fld "Looker" "seen" (.var 0))) (.cons (.dpt (.fld "Looker" "seen" (.var 0)) (.cons (.var 1) (.cons (.var 2) .nil)) (.callv 3 (.cons (.var 1) (.cons (.var 2) .nil))))
  .nil) .nil)
  (.cons (.ret (.dgt (.fld "Looker" "seen" (.var 0)) (.cons (.var 1) (.cons (.var 2) .nil))))
  .nil)))⟩
def iLooker_rank : Def := ⟨3, 5,
  (.cons (.ife (.val (.fld "Looker" "is_about" (.var 0))) (.cons (.set 1 (.bin .sub (.bin .sub (.blt .len (.cons (.fld "Looker" "stretches" (.var 0)) .nil)) (.int 1)) (.var 1)))
  (.cons (.set 2 (.bin .sub (.bin .sub (.fld "Looker" "columns" (.var 0)) (.int 1)) (.var 2)))
  .nil)) .nil)
  (.cons (.unp (.tp (.cons (.nm 3) (.cons (.nm 4) .nil))) (.ix (.fld "Looker" "stretches" (.var 0)) (.var 1)))
  (.cons (.ife (.chn .le .le (.var 3) (.var 2) (.var 4)) (.cons (.ret (.tup (.cons (.int 0) (.cons (.meth "Looker" "number_at" (.var 0) (.cons (.var 1) (.cons (.var 2) .nil))) .nil))))
  .nil) .nil)
  (.cons (.ret (.tup (.cons (.int 1) (.cons (.blt .max2 (.cons (.bin .sub (.var 3) (.var 2)) (.cons (.bin .sub (.var 2) (.var 4)) .nil))) .nil))))
  .nil))))⟩
def iLooker_is_beaten : Def := ⟨4, 4,
  (.cons (.ret (.cmp .lt (.meth "Looker" "rank" (.var 0) (.cons (.var 1) (.cons (.var 3) .nil))) (.meth "Looker" "rank" (.var 0) (.cons (.var 1) (.cons (.var 2) .nil)))))
  .nil)⟩
def iLooker : Def := ⟨3, 3,
  (.cons (.mkc "Looker") .nil)⟩
def ireduced : Def := ⟨3, 5,
  (.cons (.own 3 (.lit .nil))
  (.cons (.for (.nm 4) (.seq (.var 2)) (.cons (.whl (.and (.one 3) (.val (.meth "Looker" "is_beaten" (.var 0) (.cons (.ix (.var 1) (.bin .sub (.olen 3) (.int 1))) (.cons (.oix 3 (.neg (.int 1))) (.cons (.var 4) .nil)))))) (.cons (.exp (.opop 3))
  .nil))
  (.cons (.ife (.cmp .lt (.olen 3) (.blt .len (.cons (.var 1) .nil))) (.cons (.app 3 (.var 4))
  .nil) .nil)
  .nil)))
  (.cons (.ret (.mv 3))
  .nil)))⟩
def ifirst_best : Def := ⟨3, 5,
  (.cons (.set 3 (.ix (.var 2) (.int 0)))
  (.cons (.for (.nm 4) (.seq (.sl (.var 2) (.yes (.int 1)) .no)) (.cons (.ife (.val (.meth "Looker" "is_beaten" (.var 0) (.cons (.var 1) (.cons (.var 3) (.cons (.var 4) .nil))))) (.cons (.set 3 (.var 4))
  .nil) .nil)
  .nil))
  (.cons (.ret (.var 3))
  .nil)))⟩
def ibetween : Def := ⟨4, 10,
  (.cons (.own 4 (.lit .nil))
  (.cons (.for (.tp (.cons (.nm 5) (.cons (.nm 6) .nil))) (.enum (.var 1)) (.cons (.ife (.cmp .eq (.bin .mod (.var 5) (.int 2)) (.int 1)) (.cons (.app 4 (.ix (.var 3) (.bin .fdiv (.var 5) (.int 2))))
  .nil) (.cons (.set 7 (.ix (.frz (.cato (.frz (.lit (.cons (.ix (.var 2) (.int 0)) .nil))) 4)) (.neg (.int 1))))
  (.cons (.set 8 (.ix (.bin .add (.var 3) (.frz (.lit (.cons (.ix (.var 2) (.neg (.int 1))) .nil)))) (.bin .fdiv (.var 5) (.int 2))))
  (.cons (.app 4 (.call "first_best" (.cons (.var 0) (.cons (.var 6) (.cons (.frz (.comp [9] (.var 9) (.nm 9) (.seq (.var 2)) (.yes (.chn .le .le (.var 7) (.var 9) (.var 8))))) .nil)))))
  .nil))))
  .nil))
  (.cons (.ret (.mv 4))
  .nil)))⟩
def ibest_of : Def := ⟨3, 4,
  (.cons (.ife (.ceq (.var 1)) (.cons (.ret (.frz (.lit .nil)))
  .nil) .nil)
  (.cons (.set 3 (.call "reduced" (.cons (.var 0) (.cons (.var 1) (.cons (.var 2) .nil)))))
  (.cons (.ret (.call "between" (.cons (.var 0) (.cons (.var 1) (.cons (.var 3) (.cons (.call "best_of" (.cons (.var 0) (.cons (.frz (.odd (.var 1))) (.cons (.var 3) .nil)))) .nil))))))
  .nil)))⟩
def ileast_by : Def := ⟨3, 6,
  (.cons (.set 3 (.make "Looker" (.cons (.var 0) (.cons (.var 1) (.cons (.var 2) .nil)))))
  (.cons (.set 4 (.call "best_of" (.cons (.var 3) (.cons (.frz (.lrg1 (.blt .len (.cons (.var 1) .nil)))) (.cons (.frz (.lrg1 (.fld "Looker" "columns" (.var 3)))) .nil)))))
  (.cons (.ife (.cmp .eq (.var 2) (.str "last")) (.cons (.setF 4 (.comp [5] (.bin .sub (.bin .sub (.fld "Looker" "columns" (.var 3)) (.int 1)) (.var 5)) (.nm 5) (.seq (.rev (.var 4))) .no))
  .nil) .nil)
  (.cons (.ret (.blt .tuple (.cons (.var 4) .nil)))
  .nil))))⟩
def ibends_up : Def := ⟨1, 6,
  (.cons (.setF 1 (.comp [2, 3] (.bin .sub (.var 3) (.var 2)) (.tp (.cons (.nm 2) (.cons (.nm 3) .nil))) (.zip (.sl (.var 0) .no (.yes (.neg (.int 1)))) (.sl (.var 0) (.yes (.int 1)) .no)) .no))
  (.cons (.ret (.blt .all (.cons (.frz (.comp [4, 5] (.cmp .le (.var 4) (.var 5)) (.tp (.cons (.nm 4) (.cons (.nm 5) .nil))) (.zip (.sl (.var 1) .no (.yes (.neg (.int 1)))) (.sl (.var 1) (.yes (.int 1)) .no)) .no)) .nil)))
  .nil))⟩
def istretch_at : Def := ⟨3, 3,
  (.cons (.ret (.tup (.cons (.blt .max2 (.cons (.int 0) (.cons (.bin .add (.bin .sub (.var 2) (.blt .len (.cons (.var 1) .nil))) (.int 1)) .nil))) (.cons (.blt .min2 (.cons (.bin .sub (.blt .len (.cons (.var 0) .nil)) (.int 1)) (.cons (.var 2) .nil))) .nil))))
  .nil)⟩
def istretches_for : Def := ⟨2, 3,
  (.cons (.ret (.blt .tuple (.cons (.frz (.comp [2] (.call "stretch_at" (.cons (.var 0) (.cons (.var 1) (.cons (.var 2) .nil)))) (.nm 2) (.rng1 (.bin .sub (.bin .add (.blt .len (.cons (.var 0) .nil)) (.blt .len (.cons (.var 1) .nil))) (.int 1))) .no)) .nil)))
  .nil)⟩
def ifirst_by_all : Def := ⟨3, 6,
  (.cons (.unp (.tp (.cons (.nm 3) (.cons (.nm 4) .nil))) (.call "stretch_at" (.cons (.var 0) (.cons (.var 1) (.cons (.var 2) .nil)))))
  (.cons (.ret (.ix (.blt .mind (.cons (.frz (.comp [5] (.tup (.cons (.bin .add (.ix (.var 0) (.var 5)) (.ix (.var 1) (.bin .sub (.var 2) (.var 5)))) (.cons (.var 5) .nil))) (.nm 5) (.rng2 (.var 3) (.bin .add (.var 4) (.int 1))) .no)) .nil)) (.int 1)))
  .nil))⟩
def ifirsts_of_in : Def := ⟨4, 4,
  (.cons (.ret (.bin .add (.ix (.var 2) (.var 1)) (.ix (.var 3) (.bin .sub (.var 0) (.var 1)))))
  .nil)⟩
def ifirsts_of : Def := ⟨2, 5,
  (.cons (.ndef 2 "firsts_of")
  (.cons (.set 3 (.call "stretches_for" (.cons (.var 0) (.cons (.var 1) .nil))))
  (.cons (.ife (.val (.call "bends_up" (.cons (.var 1) .nil))) (.cons (.ret (.callc "least_by" 2 "firsts_of" [0, 1] (.cons (.var 3) (.cons (.str "first") .nil))))
  .nil) .nil)
  (.cons (.ret (.blt .tuple (.cons (.frz (.comp [4] (.call "first_by_all" (.cons (.var 0) (.cons (.var 1) (.cons (.var 4) .nil)))) (.nm 4) (.rng1 (.blt .len (.cons (.var 3) .nil))) .no)) .nil)))
  .nil))))⟩
def ijoined : Def := ⟨2, 5,
  (.cons (.set 2 (.call "firsts_of" (.cons (.var 0) (.cons (.var 1) .nil))))
  (.cons (.ret (.tup (.cons (.blt .tuple (.cons (.frz (.comp [3, 4] (.bin .add (.ix (.var 0) (.var 4)) (.ix (.var 1) (.bin .sub (.var 3) (.var 4)))) (.tp (.cons (.nm 3) (.cons (.nm 4) .nil))) (.enum (.var 2)) .no)) .nil)) (.cons (.var 2) .nil))))
  .nil))⟩
def i_law_deck : Def := ⟨1, 2,
  (.cons (.set 1 (.cel (.list (.sl (.var 0) .no (.yes (.int 63))))))
  (.cons (.ret (.cel (.lit (.cons (.var 1) (.cons (.bin .add (.int 104729) (.bin .mod (.blt .sum (.cons (.var 1) .nil)) (.int 2147483587))) (.cons (.int 0) .nil))))))
  .nil))⟩
def i_law_draw : Def := ⟨2, 5,
  (.cons (.csub (.var 0) (.int 2) (.bin .add (.ix (.var 0) (.int 2)) (.int 1)))
  (.cons (.set 2 (.ix (.var 0) (.int 0)))
  (.cons (.set 3 (.ix (.var 0) (.int 1)))
  (.cons (.ife (.cne (.var 2)) (.cons (.set 3 (.cpopA (.var 2) (.int 0)))
  (.cons (.ife (.cmp .ge (.var 3) (.bin .pow (.int 10) (.int 18))) (.cons (.cins (.var 2) (.int 0) (.bin .fdiv (.var 3) (.var 1)))
  (.cons (.ret (.bin .mod (.var 3) (.var 1)))
  .nil)) .nil)
  (.cons (.set 3 (.bin .add (.var 3) (.ix (.var 0) (.int 1))))
  .nil))) .nil)
  (.cons (.set 4 (.bin .mod (.bin .add (.bin .add (.bin .mul (.bin .mod (.var 3) (.int 2147483629)) (.int 48271)) (.bin .mul (.int 7919) (.ix (.var 0) (.int 2)))) (.int 13)) (.int 2147483647)))
  (.cons (.set 4 (.bin .mod (.bin .add (.bin .add (.bin .mul (.var 4) (.var 4)) (.bin .mul (.int 69621) (.var 4))) (.ix (.var 0) (.int 2))) (.int 2147483587)))
  (.cons (.csub (.var 0) (.int 1) (.var 4))
  (.cons (.ret (.bin .mod (.bin .fdiv (.bin .mod (.bin .mul (.var 4) (.bin .add (.var 4) (.int 40692))) (.int 2147483563)) (.int 64)) (.var 1)))
  .nil))))))))⟩
def i_law_number : Def := ⟨1, 3,
  (.cons (.set 1 (.call "_law_draw" (.cons (.var 0) (.cons (.int 8) .nil))))
  (.cons (.ife (.cmp .lt (.var 1) (.int 4)) (.cons (.ret (.bin .sub (.call "_law_draw" (.cons (.var 0) (.cons (.int 7) .nil))) (.int 3)))
  .nil) .nil)
  (.cons (.ife (.cmp .lt (.var 1) (.int 6)) (.cons (.ret (.bin .sub (.call "_law_draw" (.cons (.var 0) (.cons (.int 201) .nil))) (.int 100)))
  .nil) .nil)
  (.cons (.set 2 (.bin .pow (.int 10) (.int 8)))
  (.cons (.ife (.cmp .eq (.var 1) (.int 6)) (.cons (.set 2 (.bin .add (.bin .add (.bin .mul (.call "_law_draw" (.cons (.var 0) (.cons (.bin .pow (.int 10) (.int 4)) .nil))) (.bin .pow (.int 10) (.int 4))) (.call "_law_draw" (.cons (.var 0) (.cons (.bin .pow (.int 10) (.int 4)) .nil)))) (.int 1)))
  .nil) .nil)
  (.cons (.ret (.ix (.frz (.lit (.cons (.var 2) (.cons (.bin .sub (.int 0) (.var 2)) .nil)))) (.call "_law_draw" (.cons (.var 0) (.cons (.int 2) .nil)))))
  .nil))))))⟩
def i_law_size : Def := ⟨1, 1,
  (.cons (.ife (.cmp .eq (.call "_law_draw" (.cons (.var 0) (.cons (.int 8) .nil))) (.int 5)) (.cons (.ret (.ix (.frz (.lit (.cons (.int 20) (.cons (.bin .add (.int 1) (.call "_law_draw" (.cons (.var 0) (.cons (.int 20) .nil)))) .nil)))) (.call "_law_draw" (.cons (.var 0) (.cons (.int 2) .nil)))))
  .nil) .nil)
  (.cons (.ret (.bin .add (.int 1) (.call "_law_draw" (.cons (.var 0) (.cons (.int 6) .nil)))))
  .nil))⟩
def i_law_bent_row : Def := ⟨2, 7,
  (.cons (.set 2 (.ix (.frz (.lit (.cons (.int 1) (.cons (.int 3) (.cons (.bin .pow (.int 10) (.int 6)) .nil))))) (.call "_law_draw" (.cons (.var 0) (.cons (.int 3) .nil)))))
  (.cons (.set 3 (.ix (.frz (.lit (.cons (.int 21) (.cons (.int 3) .nil)))) (.call "_law_draw" (.cons (.var 0) (.cons (.int 2) .nil)))))
  (.cons (.own 4 (.lit (.cons (.bin .mul (.bin .sub (.call "_law_draw" (.cons (.var 0) (.cons (.int 2001) .nil))) (.int 1000)) (.ix (.frz (.lit (.cons (.int 1) (.cons (.bin .pow (.int 10) (.int 5)) .nil)))) (.call "_law_draw" (.cons (.var 0) (.cons (.int 2) .nil))))) .nil)))
  (.cons (.for (.nm 5) (.seq (.frz (.srt (.frz (.comp [6] (.bin .mul (.bin .sub (.call "_law_draw" (.cons (.var 0) (.cons (.var 3) .nil))) (.bin .fdiv (.var 3) (.int 2))) (.var 2)) (.nm 6) (.rng1 (.bin .sub (.var 1) (.int 1))) .no))))) (.cons (.app 4 (.bin .add (.oix 4 (.neg (.int 1))) (.var 5)))
  .nil))
  (.cons (.ret (.blt .tuple (.cons (.mv 4) .nil)))
  .nil)))))⟩
def i_law_row : Def := ⟨3, 7,
  (.cons (.ife (.cmp .eq (.var 1) (.int 0)) (.cons (.ret (.blt .tuple (.cons (.frz (.comp [3] (.call "_law_number" (.cons (.var 0) .nil)) (.nm 3) (.rng1 (.var 2)) .no)) .nil)))
  .nil) .nil)
  (.cons (.ife (.cmp .eq (.var 1) (.int 1)) (.cons (.ret (.blt .tuple (.cons (.frz (.comp [3] (.call "_law_draw" (.cons (.var 0) (.cons (.int 3) .nil))) (.nm 3) (.rng1 (.var 2)) .no)) .nil)))
  .nil) .nil)
  (.cons (.ife (.cmp .eq (.var 1) (.int 2)) (.cons (.ret (.bin .mul (.tup (.cons (.call "_law_number" (.cons (.var 0) .nil)) .nil)) (.var 2)))
  .nil) .nil)
  (.cons (.set 4 (.call "_law_bent_row" (.cons (.var 0) (.cons (.var 2) .nil))))
  (.cons (.ife (.cmp .eq (.var 1) (.int 4)) (.cons (.set 4 (.blt .tuple (.cons (.frz (.comp [5] (.bin .sub (.int 0) (.var 5)) (.nm 5) (.seq (.var 4)) .no)) .nil)))
  .nil) .nil)
  (.cons (.ife (.cmp .eq (.var 1) (.int 5)) (.cons (.set 6 (.call "_law_draw" (.cons (.var 0) (.cons (.var 2) .nil))))
  (.cons (.set 4 (.bin .add (.bin .add (.sl (.var 4) .no (.yes (.var 6))) (.tup (.cons (.bin .add (.ix (.var 4) (.var 6)) (.ix (.frz (.lit (.cons (.int 1) (.cons (.neg (.int 1)) (.cons (.int 2) .nil))))) (.call "_law_draw" (.cons (.var 0) (.cons (.int 3) .nil))))) .nil))) (.sl (.var 4) (.yes (.bin .add (.var 6) (.int 1))) .no)))
  .nil)) .nil)
  (.cons (.ret (.var 4))
  .nil)))))))⟩
def i_law_moved : Def := ⟨2, 3,
  (.cons (.ret (.blt .tuple (.cons (.frz (.comp [2] (.bin .add (.var 2) (.var 1)) (.nm 2) (.seq (.var 0)) .no)) .nil)))
  .nil)⟩
def i_law_last_places : Def := ⟨3, 7,
  (.cons (.own 3 (.lit .nil))
  (.cons (.for (.nm 4) (.rng1 (.blt .len (.cons (.var 2) .nil))) (.cons (.set 5 (.frz (.lrg2 (.blt .max2 (.cons (.int 0) (.cons (.bin .add (.bin .sub (.var 4) (.blt .len (.cons (.var 1) .nil))) (.int 1)) .nil))) (.blt .min2 (.cons (.blt .len (.cons (.var 0) .nil)) (.cons (.bin .add (.var 4) (.int 1)) .nil))))))
  (.cons (.app 3 (.ix (.frz (.comp [6] (.var 6) (.nm 6) (.seq (.var 5)) (.yes (.cmp .eq (.bin .add (.ix (.var 0) (.var 6)) (.ix (.var 1) (.bin .sub (.var 4) (.var 6)))) (.ix (.var 2) (.var 4)))))) (.neg (.int 1))))
  .nil)))
  (.cons (.ret (.mv 3))
  .nil)))⟩
def i_law_two_right : Def := ⟨3, 14,
  (.cons (.unp (.tp (.cons (.nm 3) (.cons (.nm 4) .nil))) (.call "joined" (.cons (.var 1) (.cons (.var 2) .nil))))
  (.cons (.set 5 (.call "joined" (.cons (.var 2) (.cons (.var 1) .nil))))
  (.cons (.set 6 (.call "_law_last_places" (.cons (.var 1) (.cons (.var 2) (.cons (.var 3) .nil)))))
  (.cons (.ife (.or (.cmp .ne (.ix (.var 5) (.int 0)) (.var 3)) (.cmp .ne (.frz (.comp [7, 8] (.bin .sub (.var 7) (.var 8)) (.tp (.cons (.nm 7) (.cons (.nm 8) .nil))) (.enum (.ix (.var 5) (.int 1))) .no)) (.var 6))) (.cons (.ret (.bl false))
  .nil) .nil)
  (.cons (.set 9 (.call "joined" (.cons (.rev (.var 1)) (.cons (.rev (.var 2)) .nil))))
  (.cons (.ife (.or (.cmp .ne (.ix (.var 9) (.int 0)) (.rev (.var 3))) (.cmp .ne (.rev (.frz (.comp [8] (.bin .sub (.bin .sub (.blt .len (.cons (.var 1) .nil)) (.int 1)) (.var 8)) (.nm 8) (.seq (.ix (.var 9) (.int 1))) .no))) (.var 6))) (.cons (.ret (.bl false))
  .nil) .nil)
  (.cons (.set 10 (.call "_law_number" (.cons (.var 0) .nil)))
  (.cons (.ife (.cmp .ne (.call "joined" (.cons (.call "_law_moved" (.cons (.var 1) (.cons (.var 10) .nil))) (.cons (.var 2) .nil))) (.tup (.cons (.call "_law_moved" (.cons (.var 3) (.cons (.var 10) .nil))) (.cons (.var 4) .nil)))) (.cons (.ret (.bl false))
  .nil) .nil)
  (.cons (.ife (.cmp .ne (.call "joined" (.cons (.var 1) (.cons (.tup (.cons (.var 10) .nil)) .nil))) (.tup (.cons (.call "_law_moved" (.cons (.var 1) (.cons (.var 10) .nil))) (.cons (.trg1 (.blt .len (.cons (.var 1) .nil))) .nil)))) (.cons (.ret (.bl false))
  .nil) .nil)
  (.cons (.set 11 (.call "_law_draw" (.cons (.var 0) (.cons (.blt .len (.cons (.var 1) .nil)) .nil))))
  (.cons (.set 12 (.ix (.call "joined" (.cons (.bin .add (.bin .add (.sl (.var 1) .no (.yes (.var 11))) (.tup (.cons (.bin .add (.bin .add (.ix (.var 1) (.var 11)) (.int 1)) (.call "_law_draw" (.cons (.var 0) (.cons (.int 9) .nil)))) .nil))) (.sl (.var 1) (.yes (.bin .add (.var 11) (.int 1))) .no)) (.cons (.var 2) .nil))) (.int 0)))
  (.cons (.ife (.cne (.frz (.comp [7] (.var 7) (.nm 7) (.rng1 (.blt .len (.cons (.var 3) .nil))) (.yes (.cmp .lt (.ix (.var 12) (.var 7)) (.ix (.var 3) (.var 7))))))) (.cons (.ret (.bl false))
  .nil) .nil)
  (.cons (.set 13 (.ix (.call "joined" (.cons (.var 1) (.cons (.bin .add (.var 2) (.tup (.cons (.var 10) .nil))) .nil))) (.int 0)))
  (.cons (.ret (.ceq (.frz (.comp [7] (.var 7) (.nm 7) (.rng1 (.blt .len (.cons (.var 3) .nil))) (.yes (.cmp .gt (.ix (.var 13) (.var 7)) (.ix (.var 3) (.var 7))))))))
  .nil))))))))))))))⟩
def ilaw : Def := ⟨1, 10,
  (.cons (.set 1 (.call "_law_deck" (.cons (.var 0) .nil)))
  (.cons (.for (.nm 2) (.rng1 (.int 4)) (.cons (.setF 3 (.comp [4] (.call "_law_draw" (.cons (.var 1) (.cons (.int 6) .nil))) (.nm 4) (.rng1 (.int 3)) .no))
  (.cons (.unp (.tp (.cons (.nm 5) (.cons (.nm 6) (.cons (.nm 7) .nil)))) (.frz (.comp [8] (.call "_law_row" (.cons (.var 1) (.cons (.var 8) (.cons (.call "_law_size" (.cons (.var 1) .nil)) .nil)))) (.nm 8) (.seq (.var 3)) .no)))
  (.cons (.ife (.not (.val (.call "_law_two_right" (.cons (.var 1) (.cons (.var 5) (.cons (.var 6) .nil)))))) (.cons (.ret (.bl false))
  .nil) .nil)
  (.cons (.set 9 (.ix (.call "joined" (.cons (.ix (.call "joined" (.cons (.var 5) (.cons (.var 6) .nil))) (.int 0)) (.cons (.var 7) .nil))) (.int 0)))
  (.cons (.ife (.or (.cmp .ne (.var 9) (.ix (.call "joined" (.cons (.var 5) (.cons (.ix (.call "joined" (.cons (.var 6) (.cons (.var 7) .nil))) (.int 0)) .nil))) (.int 0))) (.cmp .ne (.ix (.call "joined" (.cons (.var 6) (.cons (.ix (.call "joined" (.cons (.var 7) (.cons (.var 5) .nil))) (.int 0)) .nil))) (.int 0)) (.var 9))) (.cons (.ret (.bl false))
  .nil) .nil)
  .nil))))))
  (.cons (.ret (.bl true))
  .nil)))⟩
def tabD : List (String × Def) := [("Looker.__init__", iLooker_init), ("Looker.number_at", iLooker_number_at), ("Looker.rank", iLooker_rank), ("Looker.is_beaten", iLooker_is_beaten), ("Looker", iLooker), ("reduced", ireduced), ("first_best", ifirst_best), ("between", ibetween), ("best_of", ibest_of), ("least_by", ileast_by), ("bends_up", ibends_up), ("stretch_at", istretch_at), ("stretches_for", istretches_for), ("first_by_all", ifirst_by_all), ("firsts_of/", ifirsts_of_in), ("firsts_of", ifirsts_of), ("joined", ijoined), ("_law_deck", i_law_deck), ("_law_draw", i_law_draw), ("_law_number", i_law_number), ("_law_size", i_law_size), ("_law_bent_row", i_law_bent_row), ("_law_row", i_law_row), ("_law_moved", i_law_moved), ("_law_last_places", i_law_last_places), ("_law_two_right", i_law_two_right), ("law", ilaw)]
end M61.k27

set_option Elab.async false
set_option linter.all false
set_option autoImplicit false
set_option maxRecDepth 100000
namespace M61.k27
open PySem PySem.Spec PyProof.Rows L2
/-! ### the text of k27 -/
def topS (i : Nat) : Stmt := PySem.Challenge.pw_bendtables_k27_rows_joined_put_otherwise.main.body.getD i (.Pass ⟨0, 0, 0, 0⟩)
def dLooker_init : DefI := ⟨"Looker.__init__", inClass (topS 1) 0, ["self", "look", "stretches", "side"], ["self", "look", "stretches", "side"], iLooker_init, .meth "Looker" "__init__"⟩
def dLooker_number_at : DefI := ⟨"Looker.number_at", inClass (topS 1) 1, ["self", "row", "column", "look"], ["self", "row", "column"], iLooker_number_at, .meth "Looker" "number_at"⟩
def dLooker_rank : DefI := ⟨"Looker.rank", inClass (topS 1) 2, ["self", "row", "column", "first", "last"], ["self", "row", "column"], iLooker_rank, .meth "Looker" "rank"⟩
def dLooker_is_beaten : DefI := ⟨"Looker.is_beaten", inClass (topS 1) 3, ["self", "row", "one", "other"], ["self", "row", "one", "other"], iLooker_is_beaten, .meth "Looker" "is_beaten"⟩
def dLooker : DefI := ⟨"Looker", topS 1, [], [], iLooker, .cls⟩
def dreduced : DefI := ⟨"reduced", topS 2, ["looker", "rows", "columns", "kept", "column"], ["looker", "rows", "columns"], ireduced, .fn⟩
def dfirst_best : DefI := ⟨"first_best", topS 3, ["looker", "row", "columns", "found", "column"], ["looker", "row", "columns"], ifirst_best, .fn⟩
def dbetween : DefI := ⟨"between", topS 4, ["looker", "rows", "columns", "some", "found", "number", "row", "low", "high", "column"], ["looker", "rows", "columns", "some"], ibetween, .fn⟩
def dbest_of : DefI := ⟨"best_of", topS 5, ["looker", "rows", "columns", "few"], ["looker", "rows", "columns"], ibest_of, .fn⟩
def dleast_by : DefI := ⟨"least_by", topS 6, ["look", "stretches", "side", "looker", "found", "column"], ["look", "stretches", "side"], ileast_by, .fn⟩
def dbends_up : DefI := ⟨"bends_up", topS 8, ["row", "steps", "here", "there", "ahead", "behind"], ["row"], ibends_up, .fn⟩
def dstretch_at : DefI := ⟨"stretch_at", topS 9, ["one", "other", "k"], ["one", "other", "k"], istretch_at, .fn⟩
def dstretches_for : DefI := ⟨"stretches_for", topS 10, ["one", "other", "k"], ["one", "other"], istretches_for, .fn⟩
def dfirst_by_all : DefI := ⟨"first_by_all", topS 11, ["one", "other", "k", "start", "stop", "i"], ["one", "other", "k"], ifirst_by_all, .fn⟩
def dfirsts_of_in : DefI := ⟨"firsts_of/", nest0 (topS 12), ["k", "i", "one", "other"], ["k", "i"], ifirsts_of_in, .clo "firsts_of"⟩
def dfirsts_of : DefI := ⟨"firsts_of", topS 12, ["one", "other", "look", "stretches", "k"], ["one", "other"], ifirsts_of, .fn⟩
def djoined : DefI := ⟨"joined", topS 13, ["one", "other", "firsts", "k", "i"], ["one", "other"], ijoined, .fn⟩
def d_law_deck : DefI := ⟨"_law_deck", topS 15, ["_law_script", "_law_cells"], ["_law_script"], i_law_deck, .fn⟩
def d_law_draw : DefI := ⟨"_law_draw", topS 16, ["_law_deck_here", "_law_many", "_law_cells", "_law_cell", "_law_number_here"], ["_law_deck_here", "_law_many"], i_law_draw, .fn⟩
def d_law_number : DefI := ⟨"_law_number", topS 17, ["_law_deck_here", "_law_kind", "_law_great"], ["_law_deck_here"], i_law_number, .fn⟩
def d_law_size : DefI := ⟨"_law_size", topS 18, ["_law_deck_here"], ["_law_deck_here"], i_law_size, .fn⟩
def d_law_bent_row : DefI := ⟨"_law_bent_row", topS 19, ["_law_deck_here", "_law_many", "_law_wide", "_law_few", "_law_row_here", "_law_step", "_law_k"], ["_law_deck_here", "_law_many"], i_law_bent_row, .fn⟩
def d_law_row : DefI := ⟨"_law_row", topS 20, ["_law_deck_here", "_law_kind", "_law_many", "_law_k", "_law_row_here", "_law_number_here", "_law_at"], ["_law_deck_here", "_law_kind", "_law_many"], i_law_row, .fn⟩
def d_law_moved : DefI := ⟨"_law_moved", topS 21, ["_law_row_here", "_law_number_here", "_law_one"], ["_law_row_here", "_law_number_here"], i_law_moved, .fn⟩
def d_law_last_places : DefI := ⟨"_law_last_places", topS 22, ["_law_one", "_law_other", "_law_sums", "_law_found", "_law_k", "_law_some", "_law_i"], ["_law_one", "_law_other", "_law_sums"], i_law_last_places, .fn⟩
def d_law_two_right : DefI := ⟨"_law_two_right", topS 23, ["_law_deck_here", "_law_one", "_law_other", "_law_sums", "_law_firsts", "_law_about", "_law_lasts", "_law_k", "_law_i", "_law_back", "_law_by", "_law_at", "_law_more", "_law_longer"], ["_law_deck_here", "_law_one", "_law_other"], i_law_two_right, .fn⟩
def dlaw : DefI := ⟨"law", topS 24, ["_law_script", "_law_deck_here", "_law_turn", "_law_kinds", "_law_k", "_law_one", "_law_other", "_law_third", "_law_kind", "_law_sums"], ["_law_script"], ilaw, .fn⟩
def cons : List (String × Int) := []
def txts : List (String × String) := []
def dcts : List (String × List (String × Int)) := []
def flds : List (String × String) := [("Looker", "look"), ("Looker", "stretches"), ("Looker", "is_about"), ("Looker", "columns"), ("Looker", "seen")]
def nm : Nms := ⟨cons, txts, dcts, flds⟩
def tab : List DefI := [dLooker_init, dLooker_number_at, dLooker_rank, dLooker_is_beaten, dLooker, dreduced, dfirst_best, dbetween, dbest_of, dleast_by, dbends_up, dstretch_at, dstretches_for, dfirst_by_all, dfirsts_of_in, dfirsts_of, djoined, d_law_deck, d_law_draw, d_law_number, d_law_size, d_law_bent_row, d_law_row, d_law_moved, d_law_last_places, d_law_two_right, dlaw]
theorem cLooker_init : chkDef tab nm dLooker_init = true := by decide +kernel
theorem cLooker_number_at : chkDef tab nm dLooker_number_at = true := by decide +kernel
theorem cLooker_rank : chkDef tab nm dLooker_rank = true := by decide +kernel
theorem cLooker_is_beaten : chkDef tab nm dLooker_is_beaten = true := by decide +kernel
theorem cLooker : chkDef tab nm dLooker = true := by decide +kernel
theorem creduced : chkDef tab nm dreduced = true := by decide +kernel
theorem cfirst_best : chkDef tab nm dfirst_best = true := by decide +kernel
theorem cbetween : chkDef tab nm dbetween = true := by decide +kernel
theorem cbest_of : chkDef tab nm dbest_of = true := by decide +kernel
theorem cleast_by : chkDef tab nm dleast_by = true := by decide +kernel
theorem cbends_up : chkDef tab nm dbends_up = true := by decide +kernel
theorem cstretch_at : chkDef tab nm dstretch_at = true := by decide +kernel
theorem cstretches_for : chkDef tab nm dstretches_for = true := by decide +kernel
theorem cfirst_by_all : chkDef tab nm dfirst_by_all = true := by decide +kernel
theorem cfirsts_of_in : chkDef tab nm dfirsts_of_in = true := by decide +kernel
theorem cfirsts_of : chkDef tab nm dfirsts_of = true := by decide +kernel
theorem cjoined : chkDef tab nm djoined = true := by decide +kernel
theorem c_law_deck : chkDef tab nm d_law_deck = true := by decide +kernel
theorem c_law_draw : chkDef tab nm d_law_draw = true := by decide +kernel
theorem c_law_number : chkDef tab nm d_law_number = true := by decide +kernel
theorem c_law_size : chkDef tab nm d_law_size = true := by decide +kernel
theorem c_law_bent_row : chkDef tab nm d_law_bent_row = true := by decide +kernel
theorem c_law_row : chkDef tab nm d_law_row = true := by decide +kernel
theorem c_law_moved : chkDef tab nm d_law_moved = true := by decide +kernel
theorem c_law_last_places : chkDef tab nm d_law_last_places = true := by decide +kernel
theorem c_law_two_right : chkDef tab nm d_law_two_right = true := by decide +kernel
theorem claw : chkDef tab nm dlaw = true := by decide +kernel
theorem tab_good : Tab tab nm where
  nd := by decide +kernel
  chk := by
    intro di h
    simp only [tab, List.mem_cons, List.not_mem_nil, or_false] at h
    rcases h with rfl | rfl | rfl | rfl | rfl | rfl | rfl | rfl | rfl | rfl | rfl | rfl | rfl | rfl | rfl | rfl | rfl | rfl | rfl | rfl | rfl | rfl | rfl | rfl | rfl | rfl | rfl
    · exact cLooker_init
    · exact cLooker_number_at
    · exact cLooker_rank
    · exact cLooker_is_beaten
    · exact cLooker
    · exact creduced
    · exact cfirst_best
    · exact cbetween
    · exact cbest_of
    · exact cleast_by
    · exact cbends_up
    · exact cstretch_at
    · exact cstretches_for
    · exact cfirst_by_all
    · exact cfirsts_of_in
    · exact cfirsts_of
    · exact cjoined
    · exact c_law_deck
    · exact c_law_draw
    · exact c_law_number
    · exact c_law_size
    · exact c_law_bent_row
    · exact c_law_row
    · exact c_law_moved
    · exact c_law_last_places
    · exact c_law_two_right
    · exact claw
theorem nfirsts_of : NestS (nest0 dfirsts_of.st) := ⟨⟨_, rfl⟩, rfl, rfl, fun _ => rfl⟩
/-! ### what the top has written -/
theorem all_mk {w : World} {K : PySem.W.Frag} {h : Heap} {mg : Str → Option Value} (X : K.In h) (G : h.Ns mainGlobals mg)
    {f0 f1 f2 f3 f5 f6 f7 f8 f9 f10 f11 f12 f13 f15 f16 f17 f18 f19 f20 f21 f22 f23 f24 f25 f26 C0 cc0 cP0 : Addr}
    {od0 an0 od1 an1 od2 an2 od3 an3 od5 an5 od6 an6 od7 an7 od8 an8 od9 an9 od10 an10 od11 an11 od12 an12 od13 an13 od15 an15 od16 an16 od17 an17 od18 an18 od19 an19 od20 an20 od21 an21 od22 an22 od23 an23 od24 an24 od25 an25 od26 an26 : Option Addr}
    {sl0 sl1 sl2 sl3 sl5 sl6 sl7 sl8 sl9 sl10 sl11 sl12 sl13 sl15 sl16 sl17 sl18 sl19 sl20 sl21 sl22 sl23 sl24 sl25 sl26 : Array (Option Value)}
    {oc0 kV0 dc0 pm0 ct0 cd0 oc1 kV1 dc1 pm1 ct1 cd1 oc2 kV2 dc2 pm2 ct2 cd2 oc3 kV3 dc3 pm3 ct3 cd3 oc5 kV5 dc5 pm5 ct5 cd5 oc6 kV6 dc6 pm6 ct6 cd6 oc7 kV7 dc7 pm7 ct7 cd7 oc8 kV8 dc8 pm8 ct8 cd8 oc9 kV9 dc9 pm9 ct9 cd9 oc10 kV10 dc10 pm10 ct10 cd10 oc11 kV11 dc11 pm11 ct11 cd11 oc12 kV12 dc12 pm12 ct12 cd12 oc13 kV13 dc13 pm13 ct13 cd13 oc15 kV15 dc15 pm15 ct15 oc16 kV16 dc16 pm16 ct16 cd16 oc17 kV17 dc17 pm17 ct17 cd17 oc18 kV18 dc18 pm18 ct18 cd18 oc19 kV19 dc19 pm19 ct19 cd19 oc20 kV20 dc20 pm20 ct20 cd20 oc21 kV21 dc21 pm21 ct21 cd21 oc22 kV22 dc22 pm22 ct22 cd22 oc23 kV23 dc23 pm23 ct23 cd23 oc24 kV24 dc24 pm24 ct24 cd24 oc25 kV25 dc25 pm25 ct25 cd25 oc26 kV26 dc26 pm26 ct26 cd26 : Value}
    (ac0 : PySem.W.nsIn K mainGlobals "Looker" = some (some (.ref C0))) (pg0 : PySem.W.plainGet K C0 Str.empty = true) (hd0 : PySem.W.hasDictIn K C0 = true) (po0 : PySem.W.plainOver K C0 = true) (sa0 : PySem.W.findIn K (.ref C0) "__setattr__" = some (some (.builtin "object.__setattr__"))) (mk0 : PySem.W.makesIn K C0 = true) (kc0 : PySem.W.keepIn K (.ref C0) = true)
    (nf0 : PySem.W.findIn K (.ref C0) "look" = some none)
    (nf1 : PySem.W.findIn K (.ref C0) "stretches" = some none)
    (nf2 : PySem.W.findIn K (.ref C0) "is_about" = some none)
    (nf3 : PySem.W.findIn K (.ref C0) "columns" = some none)
    (nf4 : PySem.W.findIn K (.ref C0) "seen" = some none)
    (a0 : PySem.W.findIn K (.ref C0) "__init__" = some (some (.ref f0))) (i0 : PySem.W.isFn K (.ref f0) = true)
    (l0 : K.lookup f0 = some ⟨oc0, od0, .func (PySem.W.fnOf "__init__" "Looker.__init__" (defArgs dLooker_init.st) (defBody dLooker_init.st) (defScope dLooker_init.st) .none kV0 dc0 pm0 an0 cd0 ct0), sl0⟩) (c0 : PySem.W.codeIn K cd0 "Looker.__init__" = true) (k0 : PySem.W.keepIn K (.ref f0) = true)
    (a1 : PySem.W.findIn K (.ref C0) "number_at" = some (some (.ref f1))) (i1 : PySem.W.isFn K (.ref f1) = true)
    (l1 : K.lookup f1 = some ⟨oc1, od1, .func (PySem.W.fnOf "number_at" "Looker.number_at" (defArgs dLooker_number_at.st) (defBody dLooker_number_at.st) (defScope dLooker_number_at.st) .none kV1 dc1 pm1 an1 cd1 ct1), sl1⟩) (c1 : PySem.W.codeIn K cd1 "Looker.number_at" = true) (k1 : PySem.W.keepIn K (.ref f1) = true)
    (a2 : PySem.W.findIn K (.ref C0) "rank" = some (some (.ref f2))) (i2 : PySem.W.isFn K (.ref f2) = true)
    (l2 : K.lookup f2 = some ⟨oc2, od2, .func (PySem.W.fnOf "rank" "Looker.rank" (defArgs dLooker_rank.st) (defBody dLooker_rank.st) (defScope dLooker_rank.st) .none kV2 dc2 pm2 an2 cd2 ct2), sl2⟩) (c2 : PySem.W.codeIn K cd2 "Looker.rank" = true) (k2 : PySem.W.keepIn K (.ref f2) = true)
    (a3 : PySem.W.findIn K (.ref C0) "is_beaten" = some (some (.ref f3))) (i3 : PySem.W.isFn K (.ref f3) = true)
    (l3 : K.lookup f3 = some ⟨oc3, od3, .func (PySem.W.fnOf "is_beaten" "Looker.is_beaten" (defArgs dLooker_is_beaten.st) (defBody dLooker_is_beaten.st) (defScope dLooker_is_beaten.st) .none kV3 dc3 pm3 an3 cd3 ct3), sl3⟩) (c3 : PySem.W.codeIn K cd3 "Looker.is_beaten" = true) (k3 : PySem.W.keepIn K (.ref f3) = true)
    (a5 : PySem.W.nsIn K mainGlobals "reduced" = some (some (.ref f5)))
    (l5 : K.lookup f5 = some ⟨oc5, od5, .func (PySem.W.fnOf "reduced" "reduced" (defArgs dreduced.st) (defBody dreduced.st) (defScope dreduced.st) .none kV5 dc5 pm5 an5 cd5 ct5), sl5⟩) (c5 : PySem.W.codeIn K cd5 "reduced" = true) (k5 : PySem.W.keepIn K (.ref f5) = true)
    (a6 : PySem.W.nsIn K mainGlobals "first_best" = some (some (.ref f6)))
    (l6 : K.lookup f6 = some ⟨oc6, od6, .func (PySem.W.fnOf "first_best" "first_best" (defArgs dfirst_best.st) (defBody dfirst_best.st) (defScope dfirst_best.st) .none kV6 dc6 pm6 an6 cd6 ct6), sl6⟩) (c6 : PySem.W.codeIn K cd6 "first_best" = true) (k6 : PySem.W.keepIn K (.ref f6) = true)
    (a7 : PySem.W.nsIn K mainGlobals "between" = some (some (.ref f7)))
    (l7 : K.lookup f7 = some ⟨oc7, od7, .func (PySem.W.fnOf "between" "between" (defArgs dbetween.st) (defBody dbetween.st) (defScope dbetween.st) .none kV7 dc7 pm7 an7 cd7 ct7), sl7⟩) (c7 : PySem.W.codeIn K cd7 "between" = true) (k7 : PySem.W.keepIn K (.ref f7) = true)
    (a8 : PySem.W.nsIn K mainGlobals "best_of" = some (some (.ref f8)))
    (l8 : K.lookup f8 = some ⟨oc8, od8, .func (PySem.W.fnOf "best_of" "best_of" (defArgs dbest_of.st) (defBody dbest_of.st) (defScope dbest_of.st) .none kV8 dc8 pm8 an8 cd8 ct8), sl8⟩) (c8 : PySem.W.codeIn K cd8 "best_of" = true) (k8 : PySem.W.keepIn K (.ref f8) = true)
    (a9 : PySem.W.nsIn K mainGlobals "least_by" = some (some (.ref f9)))
    (l9 : K.lookup f9 = some ⟨oc9, od9, .func (PySem.W.fnOf "least_by" "least_by" (defArgs dleast_by.st) (defBody dleast_by.st) (defScope dleast_by.st) .none kV9 dc9 pm9 an9 cd9 ct9), sl9⟩) (c9 : PySem.W.codeIn K cd9 "least_by" = true) (k9 : PySem.W.keepIn K (.ref f9) = true)
    (a10 : PySem.W.nsIn K mainGlobals "bends_up" = some (some (.ref f10)))
    (l10 : K.lookup f10 = some ⟨oc10, od10, .func (PySem.W.fnOf "bends_up" "bends_up" (defArgs dbends_up.st) (defBody dbends_up.st) (defScope dbends_up.st) .none kV10 dc10 pm10 an10 cd10 ct10), sl10⟩) (c10 : PySem.W.codeIn K cd10 "bends_up" = true) (k10 : PySem.W.keepIn K (.ref f10) = true)
    (a11 : PySem.W.nsIn K mainGlobals "stretch_at" = some (some (.ref f11)))
    (l11 : K.lookup f11 = some ⟨oc11, od11, .func (PySem.W.fnOf "stretch_at" "stretch_at" (defArgs dstretch_at.st) (defBody dstretch_at.st) (defScope dstretch_at.st) .none kV11 dc11 pm11 an11 cd11 ct11), sl11⟩) (c11 : PySem.W.codeIn K cd11 "stretch_at" = true) (k11 : PySem.W.keepIn K (.ref f11) = true)
    (a12 : PySem.W.nsIn K mainGlobals "stretches_for" = some (some (.ref f12)))
    (l12 : K.lookup f12 = some ⟨oc12, od12, .func (PySem.W.fnOf "stretches_for" "stretches_for" (defArgs dstretches_for.st) (defBody dstretches_for.st) (defScope dstretches_for.st) .none kV12 dc12 pm12 an12 cd12 ct12), sl12⟩) (c12 : PySem.W.codeIn K cd12 "stretches_for" = true) (k12 : PySem.W.keepIn K (.ref f12) = true)
    (a13 : PySem.W.nsIn K mainGlobals "first_by_all" = some (some (.ref f13)))
    (l13 : K.lookup f13 = some ⟨oc13, od13, .func (PySem.W.fnOf "first_by_all" "first_by_all" (defArgs dfirst_by_all.st) (defBody dfirst_by_all.st) (defScope dfirst_by_all.st) .none kV13 dc13 pm13 an13 cd13 ct13), sl13⟩) (c13 : PySem.W.codeIn K cd13 "first_by_all" = true) (k13 : PySem.W.keepIn K (.ref f13) = true)
    (a15 : PySem.W.nsIn K mainGlobals "firsts_of" = some (some (.ref f15)))
    (l15 : K.lookup f15 = some ⟨oc15, od15, .func (PySem.W.fnOf "firsts_of" "firsts_of" (defArgs dfirsts_of.st) (defBody dfirsts_of.st) (defScope dfirsts_of.st) .none kV15 dc15 pm15 an15 (.ref cc0) ct15), sl15⟩) (c15 : PySem.W.codeIn K (.ref cc0) "firsts_of" = true) (k15 : PySem.W.keepIn K (.ref f15) = true)
    (a16 : PySem.W.nsIn K mainGlobals "joined" = some (some (.ref f16)))
    (l16 : K.lookup f16 = some ⟨oc16, od16, .func (PySem.W.fnOf "joined" "joined" (defArgs djoined.st) (defBody djoined.st) (defScope djoined.st) .none kV16 dc16 pm16 an16 cd16 ct16), sl16⟩) (c16 : PySem.W.codeIn K cd16 "joined" = true) (k16 : PySem.W.keepIn K (.ref f16) = true)
    (a17 : PySem.W.nsIn K mainGlobals "_law_deck" = some (some (.ref f17)))
    (l17 : K.lookup f17 = some ⟨oc17, od17, .func (PySem.W.fnOf "_law_deck" "_law_deck" (defArgs d_law_deck.st) (defBody d_law_deck.st) (defScope d_law_deck.st) .none kV17 dc17 pm17 an17 cd17 ct17), sl17⟩) (c17 : PySem.W.codeIn K cd17 "_law_deck" = true) (k17 : PySem.W.keepIn K (.ref f17) = true)
    (a18 : PySem.W.nsIn K mainGlobals "_law_draw" = some (some (.ref f18)))
    (l18 : K.lookup f18 = some ⟨oc18, od18, .func (PySem.W.fnOf "_law_draw" "_law_draw" (defArgs d_law_draw.st) (defBody d_law_draw.st) (defScope d_law_draw.st) .none kV18 dc18 pm18 an18 cd18 ct18), sl18⟩) (c18 : PySem.W.codeIn K cd18 "_law_draw" = true) (k18 : PySem.W.keepIn K (.ref f18) = true)
    (a19 : PySem.W.nsIn K mainGlobals "_law_number" = some (some (.ref f19)))
    (l19 : K.lookup f19 = some ⟨oc19, od19, .func (PySem.W.fnOf "_law_number" "_law_number" (defArgs d_law_number.st) (defBody d_law_number.st) (defScope d_law_number.st) .none kV19 dc19 pm19 an19 cd19 ct19), sl19⟩) (c19 : PySem.W.codeIn K cd19 "_law_number" = true) (k19 : PySem.W.keepIn K (.ref f19) = true)
    (a20 : PySem.W.nsIn K mainGlobals "_law_size" = some (some (.ref f20)))
    (l20 : K.lookup f20 = some ⟨oc20, od20, .func (PySem.W.fnOf "_law_size" "_law_size" (defArgs d_law_size.st) (defBody d_law_size.st) (defScope d_law_size.st) .none kV20 dc20 pm20 an20 cd20 ct20), sl20⟩) (c20 : PySem.W.codeIn K cd20 "_law_size" = true) (k20 : PySem.W.keepIn K (.ref f20) = true)
    (a21 : PySem.W.nsIn K mainGlobals "_law_bent_row" = some (some (.ref f21)))
    (l21 : K.lookup f21 = some ⟨oc21, od21, .func (PySem.W.fnOf "_law_bent_row" "_law_bent_row" (defArgs d_law_bent_row.st) (defBody d_law_bent_row.st) (defScope d_law_bent_row.st) .none kV21 dc21 pm21 an21 cd21 ct21), sl21⟩) (c21 : PySem.W.codeIn K cd21 "_law_bent_row" = true) (k21 : PySem.W.keepIn K (.ref f21) = true)
    (a22 : PySem.W.nsIn K mainGlobals "_law_row" = some (some (.ref f22)))
    (l22 : K.lookup f22 = some ⟨oc22, od22, .func (PySem.W.fnOf "_law_row" "_law_row" (defArgs d_law_row.st) (defBody d_law_row.st) (defScope d_law_row.st) .none kV22 dc22 pm22 an22 cd22 ct22), sl22⟩) (c22 : PySem.W.codeIn K cd22 "_law_row" = true) (k22 : PySem.W.keepIn K (.ref f22) = true)
    (a23 : PySem.W.nsIn K mainGlobals "_law_moved" = some (some (.ref f23)))
    (l23 : K.lookup f23 = some ⟨oc23, od23, .func (PySem.W.fnOf "_law_moved" "_law_moved" (defArgs d_law_moved.st) (defBody d_law_moved.st) (defScope d_law_moved.st) .none kV23 dc23 pm23 an23 cd23 ct23), sl23⟩) (c23 : PySem.W.codeIn K cd23 "_law_moved" = true) (k23 : PySem.W.keepIn K (.ref f23) = true)
    (a24 : PySem.W.nsIn K mainGlobals "_law_last_places" = some (some (.ref f24)))
    (l24 : K.lookup f24 = some ⟨oc24, od24, .func (PySem.W.fnOf "_law_last_places" "_law_last_places" (defArgs d_law_last_places.st) (defBody d_law_last_places.st) (defScope d_law_last_places.st) .none kV24 dc24 pm24 an24 cd24 ct24), sl24⟩) (c24 : PySem.W.codeIn K cd24 "_law_last_places" = true) (k24 : PySem.W.keepIn K (.ref f24) = true)
    (a25 : PySem.W.nsIn K mainGlobals "_law_two_right" = some (some (.ref f25)))
    (l25 : K.lookup f25 = some ⟨oc25, od25, .func (PySem.W.fnOf "_law_two_right" "_law_two_right" (defArgs d_law_two_right.st) (defBody d_law_two_right.st) (defScope d_law_two_right.st) .none kV25 dc25 pm25 an25 cd25 ct25), sl25⟩) (c25 : PySem.W.codeIn K cd25 "_law_two_right" = true) (k25 : PySem.W.keepIn K (.ref f25) = true)
    (a26 : PySem.W.nsIn K mainGlobals "law" = some (some (.ref f26)))
    (l26 : K.lookup f26 = some ⟨oc26, od26, .func (PySem.W.fnOf "law" "law" (defArgs dlaw.st) (defBody dlaw.st) (defScope dlaw.st) .none kV26 dc26 pm26 an26 cd26 ct26), sl26⟩) (c26 : PySem.W.codeIn K cd26 "law" = true) (k26 : PySem.W.keepIn K (.ref f26) = true)
    (tk0 : (tabsK K).lookup cP0 = some (nestQual "firsts_of" (nest0 dfirsts_of.st)))
    (z0 : PySem.W.nsIn K mainGlobals "len" = some none)
    (z1 : PySem.W.nsIn K mainGlobals "tuple" = some none)
    (z2 : PySem.W.nsIn K mainGlobals "sum" = some none)
    (z3 : PySem.W.nsIn K mainGlobals "min" = some none)
    (z4 : PySem.W.nsIn K mainGlobals "max" = some none)
    (z5 : PySem.W.nsIn K mainGlobals "abs" = some none)
    (z6 : PySem.W.nsIn K mainGlobals "int" = some none)
    (z7 : PySem.W.nsIn K mainGlobals "all" = some none)
    (z8 : PySem.W.nsIn K mainGlobals "any" = some none)
    (z9 : PySem.W.nsIn K mainGlobals "isinstance" = some none)
    (z10 : PySem.W.nsIn K mainGlobals "bool" = some none)
    (z11 : PySem.W.nsIn K mainGlobals "list" = some none)
    (z12 : PySem.W.nsIn K mainGlobals "str" = some none)
    (z13 : PySem.W.nsIn K mainGlobals "dict" = some none)
    (z14 : PySem.W.nsIn K mainGlobals "range" = some none)
    (z15 : PySem.W.nsIn K mainGlobals "enumerate" = some none)
    (z16 : PySem.W.nsIn K mainGlobals "zip" = some none)
    (z17 : PySem.W.nsIn K mainGlobals "reversed" = some none)
    (z18 : PySem.W.nsIn K mainGlobals "sorted" = some none)
    (z19 : PySem.W.nsIn K mainGlobals "repr" = some none) :
    Top K w mg [(cc0, cP0)] tab nm := by
  have F0 := fun_mk (st := dLooker_init.st) l0 c0 k0
  have b0 := F0.binds (ps := dLooker_init.ps) fun _ _ _ _ _ _ us hl => match us, hl with | [_, _, _, _], _ => rfl
  have F1 := fun_mk (st := dLooker_number_at.st) l1 c1 k1
  have b1 := F1.binds (ps := dLooker_number_at.ps) fun _ _ _ _ _ _ us hl => match us, hl with | [_, _, _], _ => rfl
  have F2 := fun_mk (st := dLooker_rank.st) l2 c2 k2
  have b2 := F2.binds (ps := dLooker_rank.ps) fun _ _ _ _ _ _ us hl => match us, hl with | [_, _, _], _ => rfl
  have F3 := fun_mk (st := dLooker_is_beaten.st) l3 c3 k3
  have b3 := F3.binds (ps := dLooker_is_beaten.ps) fun _ _ _ _ _ _ us hl => match us, hl with | [_, _, _, _], _ => rfl
  have F5 := fun_mk (st := dreduced.st) l5 c5 k5
  have b5 := F5.binds (ps := dreduced.ps) fun _ _ _ _ _ _ us hl => match us, hl with | [_, _, _], _ => rfl
  have F6 := fun_mk (st := dfirst_best.st) l6 c6 k6
  have b6 := F6.binds (ps := dfirst_best.ps) fun _ _ _ _ _ _ us hl => match us, hl with | [_, _, _], _ => rfl
  have F7 := fun_mk (st := dbetween.st) l7 c7 k7
  have b7 := F7.binds (ps := dbetween.ps) fun _ _ _ _ _ _ us hl => match us, hl with | [_, _, _, _], _ => rfl
  have F8 := fun_mk (st := dbest_of.st) l8 c8 k8
  have b8 := F8.binds (ps := dbest_of.ps) fun _ _ _ _ _ _ us hl => match us, hl with | [_, _, _], _ => rfl
  have F9 := fun_mk (st := dleast_by.st) l9 c9 k9
  have b9 := F9.binds (ps := dleast_by.ps) fun _ _ _ _ _ _ us hl => match us, hl with | [_, _, _], _ => rfl
  have F10 := fun_mk (st := dbends_up.st) l10 c10 k10
  have b10 := F10.binds (ps := dbends_up.ps) fun _ _ _ _ _ _ us hl => match us, hl with | [_], _ => rfl
  have F11 := fun_mk (st := dstretch_at.st) l11 c11 k11
  have b11 := F11.binds (ps := dstretch_at.ps) fun _ _ _ _ _ _ us hl => match us, hl with | [_, _, _], _ => rfl
  have F12 := fun_mk (st := dstretches_for.st) l12 c12 k12
  have b12 := F12.binds (ps := dstretches_for.ps) fun _ _ _ _ _ _ us hl => match us, hl with | [_, _], _ => rfl
  have F13 := fun_mk (st := dfirst_by_all.st) l13 c13 k13
  have b13 := F13.binds (ps := dfirst_by_all.ps) fun _ _ _ _ _ _ us hl => match us, hl with | [_, _, _], _ => rfl
  have F15 := fun_mk (st := dfirsts_of.st) l15 c15 k15
  have b15 := F15.binds (ps := dfirsts_of.ps) fun _ _ _ _ _ _ us hl => match us, hl with | [_, _], _ => rfl
  have F16 := fun_mk (st := djoined.st) l16 c16 k16
  have b16 := F16.binds (ps := djoined.ps) fun _ _ _ _ _ _ us hl => match us, hl with | [_, _], _ => rfl
  have F17 := fun_mk (st := d_law_deck.st) l17 c17 k17
  have b17 := F17.binds (ps := d_law_deck.ps) fun _ _ _ _ _ _ us hl => match us, hl with | [_], _ => rfl
  have F18 := fun_mk (st := d_law_draw.st) l18 c18 k18
  have b18 := F18.binds (ps := d_law_draw.ps) fun _ _ _ _ _ _ us hl => match us, hl with | [_, _], _ => rfl
  have F19 := fun_mk (st := d_law_number.st) l19 c19 k19
  have b19 := F19.binds (ps := d_law_number.ps) fun _ _ _ _ _ _ us hl => match us, hl with | [_], _ => rfl
  have F20 := fun_mk (st := d_law_size.st) l20 c20 k20
  have b20 := F20.binds (ps := d_law_size.ps) fun _ _ _ _ _ _ us hl => match us, hl with | [_], _ => rfl
  have F21 := fun_mk (st := d_law_bent_row.st) l21 c21 k21
  have b21 := F21.binds (ps := d_law_bent_row.ps) fun _ _ _ _ _ _ us hl => match us, hl with | [_, _], _ => rfl
  have F22 := fun_mk (st := d_law_row.st) l22 c22 k22
  have b22 := F22.binds (ps := d_law_row.ps) fun _ _ _ _ _ _ us hl => match us, hl with | [_, _, _], _ => rfl
  have F23 := fun_mk (st := d_law_moved.st) l23 c23 k23
  have b23 := F23.binds (ps := d_law_moved.ps) fun _ _ _ _ _ _ us hl => match us, hl with | [_, _], _ => rfl
  have F24 := fun_mk (st := d_law_last_places.st) l24 c24 k24
  have b24 := F24.binds (ps := d_law_last_places.ps) fun _ _ _ _ _ _ us hl => match us, hl with | [_, _, _], _ => rfl
  have F25 := fun_mk (st := d_law_two_right.st) l25 c25 k25
  have b25 := F25.binds (ps := d_law_two_right.ps) fun _ _ _ _ _ _ us hl => match us, hl with | [_, _, _], _ => rfl
  have F26 := fun_mk (st := dlaw.st) l26 c26 k26
  have b26 := F26.binds (ps := dlaw.ps) fun _ _ _ _ _ _ us hl => match us, hl with | [_], _ => rfl
  refine ⟨?_, ?_, ?_, ?_, ?_, ?_, ?_, ?_, ?_⟩
  · intro di h 
    simp only [tab, List.mem_cons, List.not_mem_nil, or_false] at h
    rcases h with rfl | rfl | rfl | rfl | rfl | rfl | rfl | rfl | rfl | rfl | rfl | rfl | rfl | rfl | rfl | rfl | rfl | rfl | rfl | rfl | rfl | rfl | rfl | rfl | rfl | rfl | rfl
    · intro hk; cases hk
    · intro hk; cases hk
    · intro hk; cases hk
    · intro hk; cases hk
    · intro hk; cases hk
    · exact fun _ => ⟨_, _, ⟨F5, a5, PySem.W.mg_of X G a5, b5⟩, fun z => absurd z (by decide)⟩
    · exact fun _ => ⟨_, _, ⟨F6, a6, PySem.W.mg_of X G a6, b6⟩, fun z => absurd z (by decide)⟩
    · exact fun _ => ⟨_, _, ⟨F7, a7, PySem.W.mg_of X G a7, b7⟩, fun z => absurd z (by decide)⟩
    · exact fun _ => ⟨_, _, ⟨F8, a8, PySem.W.mg_of X G a8, b8⟩, fun z => absurd z (by decide)⟩
    · exact fun _ => ⟨_, _, ⟨F9, a9, PySem.W.mg_of X G a9, b9⟩, fun z => absurd z (by decide)⟩
    · exact fun _ => ⟨_, _, ⟨F10, a10, PySem.W.mg_of X G a10, b10⟩, fun z => absurd z (by decide)⟩
    · exact fun _ => ⟨_, _, ⟨F11, a11, PySem.W.mg_of X G a11, b11⟩, fun z => absurd z (by decide)⟩
    · exact fun _ => ⟨_, _, ⟨F12, a12, PySem.W.mg_of X G a12, b12⟩, fun z => absurd z (by decide)⟩
    · exact fun _ => ⟨_, _, ⟨F13, a13, PySem.W.mg_of X G a13, b13⟩, fun z => absurd z (by decide)⟩
    · intro hk; cases hk
    · exact fun _ => ⟨_, _, ⟨F15, a15, PySem.W.mg_of X G a15, b15⟩, fun _ => ⟨nfirsts_of, cc0, cP0, by simp, rfl, tk0⟩⟩
    · exact fun _ => ⟨_, _, ⟨F16, a16, PySem.W.mg_of X G a16, b16⟩, fun z => absurd z (by decide)⟩
    · exact fun _ => ⟨_, _, ⟨F17, a17, PySem.W.mg_of X G a17, b17⟩, fun z => absurd z (by decide)⟩
    · exact fun _ => ⟨_, _, ⟨F18, a18, PySem.W.mg_of X G a18, b18⟩, fun z => absurd z (by decide)⟩
    · exact fun _ => ⟨_, _, ⟨F19, a19, PySem.W.mg_of X G a19, b19⟩, fun z => absurd z (by decide)⟩
    · exact fun _ => ⟨_, _, ⟨F20, a20, PySem.W.mg_of X G a20, b20⟩, fun z => absurd z (by decide)⟩
    · exact fun _ => ⟨_, _, ⟨F21, a21, PySem.W.mg_of X G a21, b21⟩, fun z => absurd z (by decide)⟩
    · exact fun _ => ⟨_, _, ⟨F22, a22, PySem.W.mg_of X G a22, b22⟩, fun z => absurd z (by decide)⟩
    · exact fun _ => ⟨_, _, ⟨F23, a23, PySem.W.mg_of X G a23, b23⟩, fun z => absurd z (by decide)⟩
    · exact fun _ => ⟨_, _, ⟨F24, a24, PySem.W.mg_of X G a24, b24⟩, fun z => absurd z (by decide)⟩
    · exact fun _ => ⟨_, _, ⟨F25, a25, PySem.W.mg_of X G a25, b25⟩, fun z => absurd z (by decide)⟩
    · exact fun _ => ⟨_, _, ⟨F26, a26, PySem.W.mg_of X G a26, b26⟩, fun z => absurd z (by decide)⟩
  · intro di h cls m
    simp only [tab, List.mem_cons, List.not_mem_nil, or_false] at h
    rcases h with rfl | rfl | rfl | rfl | rfl | rfl | rfl | rfl | rfl | rfl | rfl | rfl | rfl | rfl | rfl | rfl | rfl | rfl | rfl | rfl | rfl | rfl | rfl | rfl | rfl | rfl | rfl
    · intro hk; cases hk; exact ⟨C0, _, _, ⟨(show methKey "Looker" "__init__" = "Looker.__init__" from rfl) ▸ F0, ac0, ⟨pg0, hd0, po0, sa0⟩, ⟨a0, i0, k0⟩, b0⟩⟩
    · intro hk; cases hk; exact ⟨C0, _, _, ⟨(show methKey "Looker" "number_at" = "Looker.number_at" from rfl) ▸ F1, ac0, ⟨pg0, hd0, po0, sa0⟩, ⟨a1, i1, k1⟩, b1⟩⟩
    · intro hk; cases hk; exact ⟨C0, _, _, ⟨(show methKey "Looker" "rank" = "Looker.rank" from rfl) ▸ F2, ac0, ⟨pg0, hd0, po0, sa0⟩, ⟨a2, i2, k2⟩, b2⟩⟩
    · intro hk; cases hk; exact ⟨C0, _, _, ⟨(show methKey "Looker" "is_beaten" = "Looker.is_beaten" from rfl) ▸ F3, ac0, ⟨pg0, hd0, po0, sa0⟩, ⟨a3, i3, k3⟩, b3⟩⟩
    · intro hk; cases hk
    · intro hk; cases hk
    · intro hk; cases hk
    · intro hk; cases hk
    · intro hk; cases hk
    · intro hk; cases hk
    · intro hk; cases hk
    · intro hk; cases hk
    · intro hk; cases hk
    · intro hk; cases hk
    · intro hk; cases hk
    · intro hk; cases hk
    · intro hk; cases hk
    · intro hk; cases hk
    · intro hk; cases hk
    · intro hk; cases hk
    · intro hk; cases hk
    · intro hk; cases hk
    · intro hk; cases hk
    · intro hk; cases hk
    · intro hk; cases hk
    · intro hk; cases hk
    · intro hk; cases hk
  · intro di h 
    simp only [tab, List.mem_cons, List.not_mem_nil, or_false] at h
    rcases h with rfl | rfl | rfl | rfl | rfl | rfl | rfl | rfl | rfl | rfl | rfl | rfl | rfl | rfl | rfl | rfl | rfl | rfl | rfl | rfl | rfl | rfl | rfl | rfl | rfl | rfl | rfl
    · intro hk; cases hk
    · intro hk; cases hk
    · intro hk; cases hk
    · intro hk; cases hk
    · exact fun _ => ⟨C0, ac0, PySem.W.mg_of X G ac0, kc0, mk0⟩
    · intro hk; cases hk
    · intro hk; cases hk
    · intro hk; cases hk
    · intro hk; cases hk
    · intro hk; cases hk
    · intro hk; cases hk
    · intro hk; cases hk
    · intro hk; cases hk
    · intro hk; cases hk
    · intro hk; cases hk
    · intro hk; cases hk
    · intro hk; cases hk
    · intro hk; cases hk
    · intro hk; cases hk
    · intro hk; cases hk
    · intro hk; cases hk
    · intro hk; cases hk
    · intro hk; cases hk
    · intro hk; cases hk
    · intro hk; cases hk
    · intro hk; cases hk
    · intro hk; cases hk
  · intro di h mk
    simp only [tab, List.mem_cons, List.not_mem_nil, or_false] at h
    rcases h with rfl | rfl | rfl | rfl | rfl | rfl | rfl | rfl | rfl | rfl | rfl | rfl | rfl | rfl | rfl | rfl | rfl | rfl | rfl | rfl | rfl | rfl | rfl | rfl | rfl | rfl | rfl
    · intro hk; cases hk
    · intro hk; cases hk
    · intro hk; cases hk
    · intro hk; cases hk
    · intro hk; cases hk
    · intro hk; cases hk
    · intro hk; cases hk
    · intro hk; cases hk
    · intro hk; cases hk
    · intro hk; cases hk
    · intro hk; cases hk
    · intro hk; cases hk
    · intro hk; cases hk
    · intro hk; cases hk
    · intro hk; cases hk; exact ⟨nestSt_of (s := nest0 dfirsts_of.st) (r := (defBody dfirsts_of.st).tail) F15 a15 rfl, fun n q cl c doc pm ctv us hl => match us, hl with | [_, _], _ => rfl⟩
    · intro hk; cases hk
    · intro hk; cases hk
    · intro hk; cases hk
    · intro hk; cases hk
    · intro hk; cases hk
    · intro hk; cases hk
    · intro hk; cases hk
    · intro hk; cases hk
    · intro hk; cases hk
    · intro hk; cases hk
    · intro hk; cases hk
    · intro hk; cases hk
  · intro c x h cad hn
    have h : (c, x) ∈ flds := by simpa [nm] using h
    simp only [flds, List.mem_cons, List.not_mem_nil, or_false, Prod.mk.injEq] at h
    rcases h with ⟨rfl, rfl⟩ | ⟨rfl, rfl⟩ | ⟨rfl, rfl⟩ | ⟨rfl, rfl⟩ | ⟨rfl, rfl⟩
    · obtain rfl : C0 = cad := by rw [ac0] at hn; cases hn; rfl
      exact ⟨⟨pg0, hd0, po0, sa0⟩, nf0⟩
    · obtain rfl : C0 = cad := by rw [ac0] at hn; cases hn; rfl
      exact ⟨⟨pg0, hd0, po0, sa0⟩, nf1⟩
    · obtain rfl : C0 = cad := by rw [ac0] at hn; cases hn; rfl
      exact ⟨⟨pg0, hd0, po0, sa0⟩, nf2⟩
    · obtain rfl : C0 = cad := by rw [ac0] at hn; cases hn; rfl
      exact ⟨⟨pg0, hd0, po0, sa0⟩, nf3⟩
    · obtain rfl : C0 = cad := by rw [ac0] at hn; cases hn; rfl
      exact ⟨⟨pg0, hd0, po0, sa0⟩, nf4⟩
  · intro b h
    simp only [usedB, List.mem_cons, List.not_mem_nil, or_false] at h
    rcases h with rfl | rfl | rfl | rfl | rfl | rfl | rfl | rfl | rfl | rfl | rfl | rfl | rfl | rfl | rfl | rfl | rfl | rfl | rfl | rfl
    · exact PySem.W.mg_none_of X G z0
    · exact PySem.W.mg_none_of X G z1
    · exact PySem.W.mg_none_of X G z2
    · exact PySem.W.mg_none_of X G z3
    · exact PySem.W.mg_none_of X G z4
    · exact PySem.W.mg_none_of X G z5
    · exact PySem.W.mg_none_of X G z6
    · exact PySem.W.mg_none_of X G z7
    · exact PySem.W.mg_none_of X G z8
    · exact PySem.W.mg_none_of X G z9
    · exact PySem.W.mg_none_of X G z10
    · exact PySem.W.mg_none_of X G z11
    · exact PySem.W.mg_none_of X G z12
    · exact PySem.W.mg_none_of X G z13
    · exact PySem.W.mg_none_of X G z14
    · exact PySem.W.mg_none_of X G z15
    · exact PySem.W.mg_none_of X G z16
    · exact PySem.W.mg_none_of X G z17
    · exact PySem.W.mg_none_of X G z18
    · exact PySem.W.mg_none_of X G z19
  · intro x i h
    have h : (x, i) ∈ cons := by simpa [nm] using h
    simp only [cons, List.mem_cons, List.not_mem_nil, or_false, Prod.mk.injEq] at h
  · intro x i h
    have h : (x, i) ∈ txts := by simpa [nm] using h
    simp only [txts, List.mem_cons, List.not_mem_nil, or_false, Prod.mk.injEq] at h
  · intro x i h
    have h : (x, i) ∈ dcts := by simpa [nm] using h
    simp only [dcts, List.mem_cons, List.not_mem_nil, or_false, Prod.mk.injEq] at h
theorem law_mk {P : Program} {w : World} {K : PySem.W.Frag} {h : Heap} {mg : Str → Option Value} {fa : Addr} (X : K.In h) (G : h.Ns mainGlobals mg) (hfa : mg "law" = some (.ref fa)) {f : Addr} {od an : Option Addr} {sl : Array (Option Value)} {oc kV dc pm cd ct : Value} {cs : List (Addr × Addr)}
    (T : Top K w mg cs tab nm) (a : PySem.W.nsIn K mainGlobals "law" = some (some (.ref f))) (l : K.lookup f = some ⟨oc, od, .func (PySem.W.fnOf "law" "law" (defArgs dlaw.st) (defBody dlaw.st) (defScope dlaw.st) .none kV dc pm an cd ct), sl⟩) (c : PySem.W.codeIn K cd "law" = true) (k : PySem.W.keepIn K (.ref f) = true)
    (hT : ∀ p ∈ cs, h.get? p.2 = some { cls := .none, data := .fields #[] }) (nT : ∀ p ∈ cs, K.lookup p.2 = none) (hC : ∀ p ∈ cs, PySem.W.CodeHd h p.1 p.2) (hK : ∀ P q, (tabsK K).lookup P = some q → ∃ p ∈ cs, p.2 = P) :
    ∃ (fd : FuncData) (cs : List (Addr × Addr)), (∀ p ∈ cs, h.get? p.2 = some { cls := .none, data := .fields #[] }) ∧ (∀ p ∈ cs, K.lookup p.2 = none) ∧ (∀ p ∈ cs, PySem.W.CodeHd h p.1 p.2) ∧ (∀ P q, (tabsK K).lookup P = some q → ∃ p ∈ cs, p.2 = P) ∧
      (∀ (s : Shared) (v : Value), BindsTo s fd ⟨[v], []⟩ [("_law_script", v)]) ∧ ∀ base : Heap, K.In base → base.Ns mainGlobals mg → (∀ p ∈ cs, LamX.TabB base mg p.1 p.2) → FnG P w K mg base CX0 20 fa fd ["_law_script"] (spOf K fun ds C Q => Gm (defsOf tab) 20 "law" ds C Q exF) := by
  have e := hfa.symm.trans (PySem.W.mg_of X G a)
  cases e
  have F := fun_mk (st := dlaw.st) l c k
  refine ⟨PySem.W.fnOf "law" "law" (defArgs dlaw.st) (defBody dlaw.st) (defScope dlaw.st) .none kV dc pm an cd ct, cs, hT, nT, hC, hK, fun s v => .of_eq rfl, fun base _ _ TB => ?_⟩
  obtain ⟨fa2, fd2, h1, h2⟩ := (tab_ok tab_good T TB exF 20 20 (Nat.le_refl _) dlaw (by simp [tab])).1 rfl
  have e1 := h1.ns
  rw [show Str.ofString dlaw.name = "law" from rfl, a] at e1
  cases e1
  obtain ⟨oc2, od2, kV2, dc2, pm2, an2, cd2, ct2, sl2, e2, e3, _⟩ := h1.fn.ex
  rw [l] at e3
  cases e3
  exact h2
theorem law_lift {ds : List D} {C : CM} {P : D → CM → Prop} {ex : ExP} (h : Gm tabD 20 "law" ds C P ex) : Gm (defsOf tab) 20 "law" ds C P ex := by
  have e : defsOf tab = tabD := rfl
  rw [e]; exact h
end M61.k27

set_option Elab.async false
set_option linter.all false
set_option autoImplicit false
set_option maxRecDepth 100000
/-! P1: rules for the pure form. -/
namespace M61
open PySem PySem.Spec PyProof.Rows L2
theorem varD_0 (d : D) (ρ : Rho) (P : D → Prop) : varD (some (.dat d) :: ρ) 0 P = P d := rfl
theorem varD_s (x : Option Dv) (ρ : Rho) (i : Nat) (P : D → Prop) : varD (x :: ρ) (i + 1) P = varD ρ i P := rfl
theorem varO_0 (xs : List D) (ρ : Rho) (P : List D → Prop) : varO (some (.own xs) :: ρ) 0 P = P xs := rfl
theorem varO_s (x : Option Dv) (ρ : Rho) (i : Nat) (P : List D → Prop) : varO (x :: ρ) (i + 1) P = varO ρ i P := rfl
theorem varL_own0 (xs : List D) (ρ : Rho) (C : CM) (P : List D → Prop) : varL (some (.own xs) :: ρ) C 0 P = P xs := rfl
theorem varL_ref0 (a : Addr) (ρ : Rho) (C : CM) (P : List D → Prop) : varL (some (.dat (.ref a)) :: ρ) C 0 P = ∃ xs, C a = some (.lst xs) ∧ P xs := rfl
theorem varL_s (x : Option Dv) (ρ : Rho) (C : CM) (i : Nat) (P : List D → Prop) : varL (x :: ρ) C (i + 1) P = varL ρ C i P := rfl
theorem varM_own0 (xs : List D) (ρ : Rho) (P : D → Rho → Prop) : varM (some (.own xs) :: ρ) 0 P = P (.lst xs) (some (.dat (.lst xs)) :: ρ) := rfl
theorem varM_dat0 (d : D) (ρ : Rho) (P : D → Rho → Prop) : varM (some (.dat d) :: ρ) 0 P = P d (some (.dat d) :: ρ) := rfl
theorem varM_s (x : Option Dv) (ρ : Rho) (i : Nat) (P : D → Rho → Prop) : varM (x :: ρ) (i + 1) P = varM ρ i fun d ρ' => P d (x :: ρ') := by
  unfold varM
  rw [List.getElem?_cons_succ]
  rfl
theorem bindT_nm (i : Nat) (d : D) (ρ : Rho) (P : Rho → Prop) : bindT (.nm i) d ρ P = P (ρ.set i (some (.dat d))) := rfl
theorem bindT_tp (ts : Tgs) (ds : List D) (ρ : Rho) (P : Rho → Prop) : bindT (.tp ts) (.tup ds) ρ P = bindTs ts ds ρ P := rfl
theorem bindT_tl (ts : Tgs) (ds : List D) (ρ : Rho) (P : Rho → Prop) : bindT (.tp ts) (.lst ds) ρ P = bindTs ts ds ρ P := rfl
theorem bindTs_nil (ρ : Rho) (P : Rho → Prop) : bindTs .nil [] ρ P = P ρ := rfl
theorem bindTs_cons (t : Tg) (ts : Tgs) (d : D) (ds : List D) (ρ : Rho) (P : Rho → Prop) : bindTs (.cons t ts) (d :: ds) ρ P = bindT t d ρ fun ρ' => bindTs ts ds ρ' P := rfl
theorem wipeR_cons (ρ : Rho) (v : Nat) (vs : List Nat) : wipeR ρ (v :: vs) = (wipeR ρ vs).set v none := rfl
theorem wipeR_nil (ρ : Rho) : wipeR ρ [] = ρ := rfl
theorem zero_add' (i : Nat) : 0 + i = i := Nat.zero_add i
theorem if_pos_true {p q : Prop} : (if (true = true) then p else q) = p := rfl
/-- a def's promise, in pure form -/
def Sp (tb : List (String × Def)) (f : String) (k : Nat) (R : List D → CM → (D → CM → Prop) → Prop) : Prop := ∀ n, k ≤ n → ∀ ds C P ex, R ds C P → Gm tb n f ds C P ex
theorem sp_mk {tb : List (String × Def)} {f : String} {d : Def} {k : Nat} {R : List D → CM → (D → CM → Prop) → Prop} (h : tb.lookup f = some d)
    (b : ∀ n, k ≤ n → ∀ ds C P ex, R ds C P → denF ⟨Gm tb n, ex⟩ d ds C P) : Sp tb f (k + 1) R := fun n hn ds C P ex r => by
  obtain ⟨m, rfl⟩ : ∃ m, n = m + 1 := ⟨n - 1, by omega⟩
  exact ⟨d, h, fun cl => b m (by omega) ds C P { ex with cl := cl } r⟩
theorem Sp.mono {tb : List (String × Def)} {f : String} {k j : Nat} {R : List D → CM → (D → CM → Prop) → Prop} (h : Sp tb f k R) (q : k ≤ j) : Sp tb f j R := fun n hn => h n (Nat.le_trans q hn)
theorem sub_refl (C : CM) : CM.Sub C C := fun _ _ h => h
/-- a loop by what holds behind so many turns -/
theorem for_inv {tg : Tg} {body : AEnds → Rho → CM → Prop} {A : AEnds} (I : List D → Rho → CM → Prop) {ds : List D} {ρ : Rho} {C : CM} (h0 : I [] ρ C)
    (step : ∀ done d rest ρ C, ds = done ++ d :: rest → I done ρ C → ∀ nx : Rho → CM → Prop, (∀ ρ' C', I (done ++ [d]) ρ' C' → nx ρ' C') → bindT tg d ρ fun ρ1 => body { A with nx := nx, ct := nx, bk := A.nx } ρ1 C)
    (hend : ∀ ρ C, I ds ρ C → A.nx ρ C) : forGo tg body A ds ρ C := by
  have key : ∀ (rest done : List D) (ρ : Rho) (C : CM), ds = done ++ rest → I done ρ C → forGo tg body A rest ρ C := by
    intro rest
    induction rest with
    | nil => intro done ρ C e i; rw [List.append_nil] at e; subst e; exact hend ρ C i
    | cons d rest ih =>
      intro done ρ C e i
      exact step done d rest ρ C e i _ fun ρ' C' j => ih (done ++ [d]) ρ' C' (by rw [e, List.append_assoc]; rfl) j
  exact key ds [] ρ C rfl h0
theorem whl_inv {t : Rho → CM → (Bool → Rho → CM → Prop) → Prop} {body : AEnds → Rho → CM → Prop} {A : AEnds} (I : Nat → Rho → CM → Prop) {m : Nat} {ρ : Rho} {C : CM} (h0 : I m ρ C)
    (step : ∀ m ρ C, I m ρ C → ∀ nx : Rho → CM → Prop, (∀ m' ρ' C', m' < m → I m' ρ' C' → nx ρ' C') → t ρ C fun b ρ1 C1 => if b = true then body { A with nx := nx, ct := nx, bk := A.nx } ρ1 C1 else A.nx ρ1 C1) :
    ∃ n, whlGo t body A n ρ C := by
  have key : ∀ (n m : Nat) (ρ : Rho) (C : CM), m < n → I m ρ C → whlGo t body A n ρ C := by
    intro n
    induction n with
    | zero => intro m ρ C h; omega
    | succ n ih => intro m ρ C h i; exact step m ρ C i _ fun m' ρ' C' q j => ih m' ρ' C' (by omega) j
  exact ⟨m + 1, key (m + 1) m ρ C (by omega) h0⟩
/-- a comprehension by what holds behind so many turns -/
theorem comp_inv {turn : D → CM → (Option D → CM → Prop) → Prop} (I : List D → List D → CM → Prop) {ds : List D} {C : CM} {P : List D → CM → Prop} (h0 : I [] [] C)
    (step : ∀ done d rest acc C, ds = done ++ d :: rest → I done acc C → acc.length < sizeLine ∧ ∀ K : Option D → CM → Prop, (∀ y C', I (done ++ [d]) (acc ++ [y]) C' → K (some y) C') → (∀ C', I (done ++ [d]) acc C' → K none C') → turn d C K)
    (hend : ∀ acc C, I ds acc C → P acc C) : compGo turn ds [] C P := by
  have key : ∀ (rest done acc : List D) (C : CM), ds = done ++ rest → I done acc C → compGo turn rest acc C P := by
    intro rest
    induction rest with
    | nil => intro done acc C e i; rw [List.append_nil] at e; subst e; exact hend acc C i
    | cons d rest ih =>
      intro done acc C e i
      obtain ⟨h1, h2⟩ := step done d rest acc C e i
      exact h2 _ (fun y C' j => ⟨h1, ih (done ++ [d]) _ C' (by rw [e, List.append_assoc]; rfl) j⟩) (fun C' j => ih (done ++ [d]) _ C' (by rw [e, List.append_assoc]; rfl) j)
  exact key ds [] [] C rfl h0
/-- one element for each, no cell is touched -/
theorem comp_map {turn : D → CM → (Option D → CM → Prop) → Prop} (f : D → D) {ds acc : List D} {C : CM} {P : List D → CM → Prop} (hl : acc.length + ds.length ≤ sizeLine)
    (step : ∀ d ∈ ds, ∀ K : Option D → CM → Prop, K (some (f d)) C → turn d C K) (hend : P (acc ++ ds.map f) C) : compGo turn ds acc C P := by
  induction ds generalizing acc with
  | nil => rw [List.map_nil, List.append_nil] at hend; exact hend
  | cons d ds ih =>
    rw [List.length_cons] at hl
    refine step d List.mem_cons_self _ ⟨by omega, ih (by rw [List.length_append, List.length_singleton]; omega) (fun e h => step e (List.mem_cons_of_mem _ h)) ?_⟩
    rw [List.append_assoc]; exact hend
/-- .. some of them -/
theorem comp_filter {turn : D → CM → (Option D → CM → Prop) → Prop} (p : D → Bool) (f : D → D) {ds acc : List D} {C : CM} {P : List D → CM → Prop} (hl : acc.length + ds.length ≤ sizeLine)
    (step : ∀ d ∈ ds, ∀ K : Option D → CM → Prop, K (if p d = true then some (f d) else none) C → turn d C K) (hend : P (acc ++ (ds.filter p).map f) C) : compGo turn ds acc C P := by
  induction ds generalizing acc with
  | nil => rw [List.filter_nil, List.map_nil, List.append_nil] at hend; exact hend
  | cons d ds ih =>
    rw [List.length_cons] at hl
    refine step d List.mem_cons_self _ ?_
    rw [List.filter_cons] at hend
    cases hp : p d with
    | true =>
      rw [hp] at hend
      exact ⟨by omega, ih (by rw [List.length_append, List.length_singleton]; omega) (fun e h => step e (List.mem_cons_of_mem _ h)) (by rw [List.append_assoc]; exact hend)⟩
    | false =>
      rw [hp] at hend
      exact ih (by omega) (fun e h => step e (List.mem_cons_of_mem _ h)) hend

/-! ### the deck -/
theorem atI_0 {α : Type} (x : α) (xs : List α) : atI (x :: xs) 0 = some x := atI_nat (j := 0) rfl
theorem atI_1 {α : Type} (x y : α) (xs : List α) : atI (x :: y :: xs) 1 = some y := atI_nat (j := 1) rfl
theorem atI_2 {α : Type} (x y z : α) (xs : List α) : atI (x :: y :: z :: xs) 2 = some z := atI_nat (j := 2) rfl
mutual
def D.dep : D → Nat
  | .non => 0
  | .bl _ => 0
  | .int _ => 0
  | .str _ => 0
  | .tup xs => D.deps xs + 1
  | .lst xs => D.deps xs + 1
  | .ref _ => 0
  | .scr _ => 0
  | .dic => 0
  | .clo _ _ _ => 0
  | .opn _ _ _ => 0
def D.deps : List D → Nat
  | [] => 0
  | x :: xs => max (D.dep x) (D.deps xs)
end
mutual
def D.can : D → Bool
  | .str x => PyData.canLay0 (.str x)
  | .tup xs => D.cans xs
  | .lst xs => D.cans xs
  | .non => true
  | .bl _ => true
  | .int _ => true
  | .ref _ => true
  | .scr _ => true
  | .dic => true
  | .clo _ _ _ => true
  | .opn _ _ _ => true
def D.cans : List D → Bool
  | [] => true
  | x :: xs => D.can x && D.cans xs
end
mutual
theorem py_can : ∀ d : D, d.py.canLay0 = d.can
  | .non => rfl
  | .bl _ => rfl
  | .int _ => rfl
  | .str _ => rfl
  | .tup xs => pys_can xs
  | .lst xs => pys_can xs
  | .ref _ => rfl
  | .scr _ => rfl
  | .dic => rfl
  | .clo _ _ _ => rfl
  | .opn _ _ _ => rfl
theorem pys_can : ∀ xs : List D, PyData.canLayAll0 (D.pys xs) = D.cans xs
  | [] => rfl
  | x :: xs => by
    show (PyData.canLay0 x.py && PyData.canLayAll0 (D.pys xs)) = (D.can x && D.cans xs)
    rw [py_can x, pys_can xs]
end
mutual
theorem py_dep : ∀ d : D, d.py.depth = d.dep
  | .non => rfl
  | .bl _ => rfl
  | .int _ => rfl
  | .str _ => rfl
  | .tup xs => by show PyData.depthAll (D.pys xs) + 1 = D.deps xs + 1; rw [pys_dep xs]
  | .lst xs => by show PyData.depthAll (D.pys xs) + 1 = D.deps xs + 1; rw [pys_dep xs]
  | .ref _ => rfl
  | .scr _ => rfl
  | .dic => rfl
  | .clo _ _ _ => rfl
  | .opn _ _ _ => rfl
theorem pys_dep : ∀ xs : List D, PyData.depthAll (D.pys xs) = D.deps xs
  | [] => rfl
  | x :: xs => by
    show max (PyData.depth x.py) (PyData.depthAll (D.pys xs)) = max x.dep (D.deps xs)
    rw [py_dep x, pys_dep xs]
end
theorem cmp_of {d : D} (h : d.pure = true) (q : d.dep ≤ 64) (c : d.can = true) : d.Cmp := ⟨h, by
  unfold SeqAt.shaped
  rw [py_can, py_dep, decide_eq_true q, c]; rfl⟩
theorem ints_pure : ∀ xs : List Int, D.pures (xs.map .int) = true
  | [] => rfl
  | x :: xs => by rw [List.map_cons]; show (D.pure (.int x) && D.pures _) = true; rw [ints_pure xs]; rfl
theorem ints_deps : ∀ xs : List Int, D.deps (xs.map .int) = 0
  | [] => rfl
  | x :: xs => by rw [List.map_cons]; show max 0 (D.deps _) = 0; rw [ints_deps xs]; rfl
theorem ints_cans : ∀ xs : List Int, D.cans (xs.map .int) = true
  | [] => rfl
  | x :: xs => by rw [List.map_cons]; show (D.can (.int x) && D.cans _) = true; rw [ints_cans xs]; rfl
theorem ints_Cmp (xs : List Int) : (D.lst (xs.map .int)).Cmp := cmp_of (ints_pure xs) (by show D.deps _ + 1 ≤ 64; rw [ints_deps]; omega) (ints_cans xs)
theorem intst_Cmp (xs : List Int) : (D.tup (xs.map .int)).Cmp := cmp_of (ints_pure xs) (by show D.deps _ + 1 ≤ 64; rw [ints_deps]; omega) (ints_cans xs)
theorem int_Cmp (i : Int) : (D.int i).Cmp := cmp_of rfl (Nat.zero_le _) rfl
theorem bl_Cmp (i : Bool) : (D.bl i).Cmp := cmp_of rfl (Nat.zero_le _) rfl
theorem pair_Cmp (i j : Int) : (D.tup [.int i, .int j]).Cmp := intst_Cmp [i, j]
theorem non_Cmp : D.non.Cmp := cmp_of rfl (Nat.zero_le _) rfl
theorem eqv_int (i j : Int) : (D.int i).eqv (.int j) = decide (i = j) := by
  show (i == j) = _
  by_cases h : i = j <;> simp [h]
theorem eqv_bl (i j : Bool) : (D.bl i).eqv (.bl j) = decide (i = j) := by
  show (i == j) = _
  cases i <;> cases j <;> rfl
theorem eqvAll_ints : ∀ xs ys : List Int, PyData.eqvAll (D.pys (xs.map .int)) (D.pys (ys.map .int)) = decide (xs = ys)
  | [], [] => rfl
  | [], y :: ys => by rw [decide_eq_false (by simp)]; rfl
  | x :: xs, [] => by rw [decide_eq_false (by simp)]; rfl
  | x :: xs, y :: ys => by
    show ((x == y) && PyData.eqvAll (D.pys (xs.map .int)) (D.pys (ys.map .int))) = _
    rw [eqvAll_ints xs ys]
    by_cases h : x = y <;> by_cases q : xs = ys <;> simp [h, q]
theorem eqv_ints (xs ys : List Int) : (D.lst (xs.map .int)).eqv (.lst (ys.map .int)) = decide (xs = ys) := eqvAll_ints xs ys
theorem eqv_intst (xs ys : List Int) : (D.tup (xs.map .int)).eqv (.tup (ys.map .int)) = decide (xs = ys) := eqvAll_ints xs ys
theorem intsOf_map : ∀ xs : List Int, intsOf (xs.map .int) = some xs
  | [] => rfl
  | x :: xs => by
    rw [List.map_cons]
    show (intsOf (xs.map D.int)).map (x :: ·) = _
    rw [intsOf_map xs]; rfl
theorem boolsOf_map : ∀ xs : List Bool, boolsOf (xs.map .bl) = some xs
  | [] => rfl
  | x :: xs => by
    rw [List.map_cons]
    show (boolsOf (xs.map D.bl)).map (x :: ·) = _
    rw [boolsOf_map xs]; rfl

/-! ### operations, case by case -/
section
variable (P : D → Prop) (Pb : Bool → Prop) (C : CM) (i j : Int) (x y : Str) (xs ys : List D) (b c : Bool) (d e : D) (a : Addr) (lo hi : Option Int)
theorem add_i : binR .add (.int i) (.int j) P = P (.int (i + j)) := rfl
theorem add_t : binR .add (.tup xs) (.tup ys) P = (xs.length + ys.length ≤ sizeLine ∧ P (.tup (xs ++ ys))) := rfl
theorem add_l : binR .add (.lst xs) (.lst ys) P = (xs.length + ys.length ≤ sizeLine ∧ P (.lst (xs ++ ys))) := rfl
theorem add_s : binR .add (.str x) (.str y) P = (x.length + y.length ≤ sizeLine ∧ P (.str (x ++ y))) := rfl
theorem add_b (b : Bool) : binR .add (.bl b) (.int j) P = P (.int ((if b = true then 1 else 0) + j)) := rfl
theorem sub_b (b : Bool) : binR .sub (.bl b) (.int j) P = P (.int ((if b = true then 1 else 0) - j)) := rfl
theorem sub_i : binR .sub (.int i) (.int j) P = P (.int (i - j)) := rfl
theorem mul_i : binR .mul (.int i) (.int j) P = (CMul i j ∧ P (.int (i * j))) := rfl
theorem mul_t : binR .mul (.tup xs) (.int j) P = (-1000 ≤ j ∧ j ≤ 1000 ∧ xs.length ≤ 1000 ∧ P (.tup (List.replicate j.toNat xs).flatten)) := rfl
theorem mul_sgn (z : Str) : binR .mul (.str z) (.int j) P = (-1000 ≤ j ∧ j ≤ 1000 ∧ z.length ≤ 1000 ∧ P (.str (repS z j.toNat))) := rfl
theorem mul_l : binR .mul (.lst xs) (.int j) P = (-(2 ^ 63) ≤ j ∧ j < 2 ^ 63 ∧ xs.length * j.toNat ≤ sizeLine ∧ P (.lst (List.replicate j.toNat xs).flatten)) := rfl
theorem fdiv_i : binR .fdiv (.int i) (.int j) P = (CDiv i j ∧ P (.int (i / j))) := rfl
theorem mod_i : binR .mod (.int i) (.int j) P = (0 < j ∧ P (.int (i % j))) := rfl
theorem pow_i : binR .pow (.int i) (.int j) P = (CPow i j ∧ P (.int (i ^ j.toNat))) := rfl
theorem shl_i : binR .shl (.int i) (.int j) P = (CPow i j ∧ P (.int (i * 2 ^ j.toNat))) := rfl
theorem eq_r : cmpR .eq d e Pb = (d.Cmp ∧ e.Cmp ∧ Pb (d.eqv e)) := by cases d <;> cases e <;> rfl
theorem ne_r : cmpR .ne d e Pb = (d.Cmp ∧ e.Cmp ∧ Pb (!d.eqv e)) := by cases d <;> cases e <;> rfl
theorem inn_t : cmpR .inn d (.tup ys) Pb = (d.flat = true ∧ ys.all D.flat = true ∧ Pb (ys.any fun z => z.eqv d)) := by cases d <;> rfl
theorem nin_t : cmpR .nin d (.tup ys) Pb = (d.flat = true ∧ ys.all D.flat = true ∧ Pb (!ys.any fun z => z.eqv d)) := by cases d <;> rfl
theorem inn_l : cmpR .inn d (.lst ys) Pb = (d.Cmp ∧ (D.lst ys).Cmp ∧ Pb (ys.any fun z => z.eqv d)) := by cases d <;> rfl
theorem nin_l : cmpR .nin d (.lst ys) Pb = (d.Cmp ∧ (D.lst ys).Cmp ∧ Pb (!ys.any fun z => z.eqv d)) := by cases d <;> rfl
theorem lt_r : cmpR .lt (.int i) (.int j) Pb = Pb (decide (i < j)) := rfl
theorem lt_tt : cmpR .lt (.tup xs) (.tup ys) Pb = ∃ ns ms, intsOf xs = some ns ∧ intsOf ys = some ms ∧ Pb (HT.lexLt ns ms) := rfl
theorem le_r : cmpR .le (.int i) (.int j) Pb = Pb (decide (i ≤ j)) := rfl
theorem gt_r : cmpR .gt (.int i) (.int j) Pb = Pb (decide (j < i)) := rfl
theorem ge_r : cmpR .ge (.int i) (.int j) Pb = Pb (decide (j ≤ i)) := rfl
theorem is_n : cmpR .is d .non Pb = Pb d.isNon := by cases d <;> rfl
theorem isn_n : cmpR .isn d .non Pb = Pb (!d.isNon) := by cases d <;> rfl
theorem is_b : cmpR .is (.bl b) (.bl c) Pb = Pb (decide (b = c)) := rfl
theorem isn_b : cmpR .isn (.bl b) (.bl c) Pb = Pb (!decide (b = c)) := rfl
theorem sqD_t : sqD (.tup xs) = some xs := rfl
theorem sqD_l : sqD (.lst xs) = some xs := rfl
theorem isNon_n : D.isNon .non = true := rfl
theorem isNon_i : D.isNon (.int i) = false := rfl
theorem isNon_t : D.isNon (.tup xs) = false := rfl
theorem isNon_l : D.isNon (.lst xs) = false := rfl
theorem isNon_b : D.isNon (.bl b) = false := rfl
theorem isNon_s : D.isNon (.str x) = false := rfl
theorem tru_n : truD .non Pb = Pb false := rfl
theorem tru_b : truD (.bl b) Pb = Pb b := rfl
theorem tru_i : truD (.int i) Pb = Pb (i != 0) := rfl
theorem tru_t : truD (.tup xs) Pb = Pb (!xs.isEmpty) := rfl
theorem tru_l : truD (.lst xs) Pb = Pb (!xs.isEmpty) := rfl
theorem ix_t : itemR C (.tup xs) (.int i) P = ∃ d, atI xs i = some d ∧ P d := rfl
theorem ix_l : itemR C (.lst xs) (.int i) P = ∃ d, atI xs i = some d ∧ P d := rfl
theorem ix_c : itemR C (.scr xs) (.int i) P = ∃ d, atI xs i = some d ∧ P d := rfl
theorem ix_r : itemR C (.ref a) (.int i) P = ∃ d, cellAt (C a) (.int i) = some d ∧ P d := rfl
theorem cellAt_l : cellAt (some (.lst xs)) (.int i) = atI xs i := rfl
theorem cellL_l : cellL (some (.lst xs)) = some xs := rfl
theorem lstD_l : lstD C (.lst xs) = some xs := rfl
theorem lstD_r : lstD C (.ref a) = cellL (C a) := rfl
theorem sl_t : sliceR C (.tup xs) lo hi P = P (.tup (cutD xs lo hi)) := rfl
theorem sl_l : sliceR C (.lst xs) lo hi P = P (.lst (cutD xs lo hi)) := rfl
theorem sl_c : sliceR C (.scr xs) lo hi P = P (.lst (cutD xs lo hi)) := rfl
theorem sl_r : sliceR C (.ref a) lo hi P = ∃ xs, C a = some (.lst xs) ∧ P (.lst (cutD xs lo hi)) := rfl
theorem rev_t : revR (.tup xs) P = P (.tup xs.reverse) := rfl
theorem rev_l : revR (.lst xs) P = P (.lst xs.reverse) := rfl
theorem len_t : bltR C .len [.tup xs] P = P (.int xs.length) := propext ⟨fun ⟨_, h, q⟩ => by cases h; exact q, fun q => ⟨_, rfl, q⟩⟩
theorem len_l : bltR C .len [.lst xs] P = P (.int xs.length) := propext ⟨fun ⟨_, h, q⟩ => by cases h; exact q, fun q => ⟨_, rfl, q⟩⟩
theorem len_c : bltR C .len [.scr xs] P = P (.int xs.length) := propext ⟨fun ⟨_, h, q⟩ => by cases h; exact q, fun q => ⟨_, rfl, q⟩⟩
theorem len_r : bltR C .len [.ref a] P = ∃ xs, C a = some (.lst xs) ∧ P (.int xs.length) := rfl
theorem tup_t : bltR C .tuple [.tup xs] P = P (.tup xs) := propext ⟨fun ⟨_, h, q⟩ => by cases h; exact q, fun q => ⟨_, rfl, q⟩⟩
theorem tup_l : bltR C .tuple [.lst xs] P = P (.tup xs) := propext ⟨fun ⟨_, h, q⟩ => by cases h; exact q, fun q => ⟨_, rfl, q⟩⟩
theorem tup_r : bltR C .tuple [.ref a] P = ∃ xs, cellL (C a) = some xs ∧ P (.tup xs) := rfl
theorem sum_t : bltR C .sum [.tup xs] P = ∃ ns, intsOf xs = some ns ∧ P (.int ns.sum) := propext ⟨fun ⟨_, ns, h, q⟩ => by cases h; exact ⟨ns, q⟩, fun ⟨ns, q⟩ => ⟨_, ns, rfl, q⟩⟩
theorem sum_l : bltR C .sum [.lst xs] P = ∃ ns, intsOf xs = some ns ∧ P (.int ns.sum) := propext ⟨fun ⟨_, ns, h, q⟩ => by cases h; exact ⟨ns, q⟩, fun ⟨ns, q⟩ => ⟨_, ns, rfl, q⟩⟩
theorem sum_r : bltR C .sum [.ref a] P = ∃ xs ns, cellL (C a) = some xs ∧ intsOf xs = some ns ∧ P (.int ns.sum) := rfl
theorem min_t : bltR C .min [.tup xs] P = ∃ ns, intsOf xs = some ns ∧ ns ≠ [] ∧ P (.int (minI ns)) := propext ⟨fun ⟨_, ns, h, q⟩ => by cases h; exact ⟨ns, q⟩, fun ⟨ns, q⟩ => ⟨_, ns, rfl, q⟩⟩
theorem min_l : bltR C .min [.lst xs] P = ∃ ns, intsOf xs = some ns ∧ ns ≠ [] ∧ P (.int (minI ns)) := propext ⟨fun ⟨_, ns, h, q⟩ => by cases h; exact ⟨ns, q⟩, fun ⟨ns, q⟩ => ⟨_, ns, rfl, q⟩⟩
theorem max_t : bltR C .max [.tup xs] P = ∃ ns, intsOf xs = some ns ∧ ns ≠ [] ∧ P (.int (maxI ns)) := propext ⟨fun ⟨_, ns, h, q⟩ => by cases h; exact ⟨ns, q⟩, fun ⟨ns, q⟩ => ⟨_, ns, rfl, q⟩⟩
theorem max_l : bltR C .max [.lst xs] P = ∃ ns, intsOf xs = some ns ∧ ns ≠ [] ∧ P (.int (maxI ns)) := propext ⟨fun ⟨_, ns, h, q⟩ => by cases h; exact ⟨ns, q⟩, fun ⟨ns, q⟩ => ⟨_, ns, rfl, q⟩⟩
theorem min_2 : bltR C .min2 [.int i, .int j] P = P (.int (if j < i then j else i)) := rfl
theorem max_2 : bltR C .max2 [.int i, .int j] P = P (.int (if j > i then j else i)) := rfl
theorem abs_i : bltR C .abs [.int i] P = P (.int (if i < 0 then -i else i)) := rfl
theorem int_i : bltR C .int [.int i] P = P (.int i) := rfl
theorem int_b : bltR C .int [.bl b] P = P (.int (if b then 1 else 0)) := rfl
theorem all_l : bltR C .all [.lst xs] P = ∃ bs, boolsOf xs = some bs ∧ P (.bl (bs.all id)) := rfl
theorem any_l : bltR C .any [.lst xs] P = ∃ bs, boolsOf xs = some bs ∧ P (.bl (bs.any id)) := rfl
theorem str_ri (i : Int) : bltR C .str [.int i] P = (i.natAbs.log2 < 1920 ∧ P (.str (Str.ofString (toString i)))) := rfl
theorem repr_r : bltR C .repr [d] P = (d.pure = true ∧ d.py.showable = true ∧ d.py.hasDict = false ∧ d.py.depth ≤ 64 ∧ d.py.shown.length ≤ sizeLine ∧ P (.str d.py.shown)) := rfl
theorem min_2d : bltR C .min2d [d, e] P = (D.pures [d, e] = true ∧ PySem.W.AlikeAll (D.pys [d, e]) ∧ PyData.depthAll (D.pys [d, e]) ≤ 64 ∧ ∀ z ∈ [d, e], z.py = PySem.W.minD d.py (D.pys [e]) → P z) := rfl
theorem min_3 (k : Int) : bltR C .min3 [.int i, .int j, .int k] P = P (.int (min (min i j) k)) := rfl
theorem ty_bb : isTy .bool (.bl b) = some true := rfl
theorem ty_bi : isTy .bool (.int i) = some false := rfl
theorem ty_bn : isTy .bool .non = some false := rfl
theorem ty_bt : isTy .bool (.tup xs) = some false := rfl
theorem ty_ss : isTy .str (.str x) = some true := rfl
theorem ty_sn : isTy .str .non = some false := rfl
theorem ty_si : isTy .str (.int i) = some false := rfl
theorem ty_sb : isTy .str (.bl b) = some false := rfl
theorem ty_ii : isTy .int (.int i) = some true := rfl
theorem ty_ib : isTy .int (.bl b) = some true := rfl
theorem ty_in : isTy .int .non = some false := rfl
theorem ty_it : isTy .int (.tup xs) = some false := rfl
theorem ty_tt : isTy .tuple (.tup xs) = some true := rfl
theorem ty_tn : isTy .tuple .non = some false := rfl
theorem ty_ti : isTy .tuple (.int i) = some false := rfl
theorem ty_tb : isTy .tuple (.bl b) = some false := rfl
theorem ty_ll : isTy .list (.lst xs) = some true := rfl
theorem ty_lt : isTy .list (.tup xs) = some false := rfl
theorem ty_is : isTy .int (.str x) = some false := rfl
theorem ty_il : isTy .int (.lst xs) = some false := rfl
theorem ty_bs : isTy .bool (.str x) = some false := rfl
theorem ty_blst : isTy .bool (.lst xs) = some false := rfl
theorem ty_st : isTy .str (.tup xs) = some false := rfl
theorem ty_sl : isTy .str (.lst xs) = some false := rfl
theorem ty_ts : isTy .tuple (.str x) = some false := rfl
theorem ty_tl : isTy .tuple (.lst xs) = some false := rfl
theorem ty_ln : isTy .list .non = some false := rfl
theorem ty_li : isTy .list (.int i) = some false := rfl
theorem ty_lb : isTy .list (.bl b) = some false := rfl
theorem ty_ls : isTy .list (.str x) = some false := rfl
end
theorem sz : sizeLine = 16777216 := by decide
theorem cp1 : CPow 10 1 = True := eq_true (by refine ⟨by decide, by decide, by decide⟩)
theorem cp2 : CPow 10 2 = True := eq_true (by refine ⟨by decide, by decide, by decide⟩)
theorem cp3 : CPow 10 3 = True := eq_true (by refine ⟨by decide, by decide, by decide⟩)
theorem cp4 : CPow 10 4 = True := eq_true (by refine ⟨by decide, by decide, by decide⟩)
theorem cp5 : CPow 10 5 = True := eq_true (by refine ⟨by decide, by decide, by decide⟩)
theorem cp6 : CPow 10 6 = True := eq_true (by refine ⟨by decide, by decide, by decide⟩)
theorem cp7 : CPow 10 7 = True := eq_true (by refine ⟨by decide, by decide, by decide⟩)
theorem cp8 : CPow 10 8 = True := eq_true (by refine ⟨by decide, by decide, by decide⟩)
theorem cp9 : CPow 10 9 = True := eq_true (by refine ⟨by decide, by decide, by decide⟩)
theorem cp10 : CPow 10 10 = True := eq_true (by refine ⟨by decide, by decide, by decide⟩)
theorem cp11 : CPow 10 11 = True := eq_true (by refine ⟨by decide, by decide, by decide⟩)
theorem cp12 : CPow 10 12 = True := eq_true (by refine ⟨by decide, by decide, by decide⟩)
theorem cp15 : CPow 10 15 = True := eq_true (by refine ⟨by decide, by decide, by decide⟩)
theorem cp18 : CPow 10 18 = True := eq_true (by refine ⟨by decide, by decide, by decide⟩)
theorem ixN_31 : ixN 3 1 = some 1 := rfl
theorem ixN_32 : ixN 3 2 = some 2 := rfl
theorem seqIx_0 (n : Nat) : seqIndex? 0 (n + 1) = some 0 := by
  unfold seqIndex?
  simp
theorem cpow_ok {i j : Int} (h : (decide (0 ≤ j) && decide (j ≤ 1000000) && decide (i.natAbs < 2 ^ 64)) = true) : CPow i j := by
  simp only [Bool.and_eq_true, decide_eq_true_eq] at h
  exact ⟨h.1.1, h.1.2, h.2⟩
end M61

set_option Elab.async false
set_option linter.all false
set_option autoImplicit false
set_option maxRecDepth 100000
/-! P2: the deck and its draws. -/
namespace M61
open PySem PySem.Spec PyProof.Rows L2
local macro_rules
  | `(tactic| simp_arith! [$ls,*] $[$loc:location]?) => `(tactic| try simp only [wipeR_cons, wipeR_nil, eq_self, denSs, denS, denE, denT, denEs, denO, denC, denL, denI, bindT_nm, bindT_tp, bindT_tl, bindTs_nil, bindTs_cons, varD_0, varD_s, varM_own0, varM_dat0, varM_s, varO_0, varO_s, varL_own0, varL_ref0, varL_s, sz, cp1, cp2, cp3, cp4, cp5, cp6, cp7, cp8, cp9, cp10, cp11, cp12, cp15, cp18, add_i, add_t, add_l, add_s, add_b, sub_b, sub_i, mul_i, mul_t, mul_sgn, mul_l, fdiv_i, mod_i, pow_i, shl_i, eq_r, ne_r, inn_t, nin_t, inn_l, nin_l, lt_r, lt_tt, le_r, gt_r, ge_r, is_n, isn_n, is_b, isn_b, isNon_n, isNon_i, isNon_t, isNon_l, isNon_b, isNon_s, tru_n, tru_b, tru_i, tru_t, tru_l, ix_t, ix_l, ix_c, ix_r, cellAt_l, cellL_l, lstD_l, lstD_r, sqD_t, sqD_l, sl_t, sl_l, sl_c, sl_r, rev_t, rev_l, len_t, len_l, len_c, len_r, tup_t, tup_l, tup_r, sum_t, sum_l, sum_r, min_t, min_l, max_t, max_l, min_2, max_2, min_3, repr_r, str_ri, abs_i, int_i, int_b, all_l, any_l, ty_bb, ty_bi, ty_bn, ty_bt, ty_ss, ty_sn, ty_si, ty_sb, ty_ii, ty_ib, ty_in, ty_it, ty_tt, ty_tn, ty_ti, ty_tb, ty_ll, ty_lt, ty_is, ty_il, ty_bs, ty_blst, ty_st, ty_sl, ty_ts, ty_tl, ty_ln, ty_li, ty_lb, ty_ls, intsOf_map, boolsOf_map, pair_Cmp, int_Cmp, bl_Cmp, non_Cmp, ints_Cmp, intst_Cmp, eqv_int, eqv_bl, eqv_ints, eqv_intst, List.map_cons, List.map_nil, List.replicate_succ, List.replicate_zero, List.cons_append, List.nil_append, List.set_cons_zero, List.set_cons_succ, List.length_cons, List.length_nil, List.getElem?_cons_zero, List.getElem?_cons_succ, List.eraseIdx_cons_zero, Nat.reduceSub, Nat.reduceAdd, Nat.reduceLT, Nat.reduceLeDiff, Nat.reducePow, Nat.reduceEqDiff, Nat.reduceMul, Int.reducePow, Int.reduceToNat, Int.reduceMul, Int.reduceAdd, Int.reduceSub, Int.reduceNeg, Int.reduceLT, Int.reduceLE, Int.reduceEq, Int.reduceBEq, Int.reduceBNe, zero_add', not_true_eq_false, not_false_eq_true, Bool.true_eq_false, false_and, and_false, true_and, and_true, exists_eq_left', exists_and_left, Option.some.injEq, Cell.lst.injEq, Cell.dct.injEq, Cell.dtp.injEq, Cell.ins.injEq, if_pos_true, reduceIte, Bool.false_eq_true, decide_true, decide_false, Bool.not_true, Bool.not_false, Bool.not_eq_true', Bool.and_true, Bool.true_and, decide_eq_true_eq, decide_eq_false_iff_not, ite_self, List.isEmpty_cons, List.isEmpty_nil, $ls,*] $[$loc]?)
def i_law_draw : Def := ⟨2, 5,
  (.cons (.csub (.var 0) (.int 2) (.bin .add (.ix (.var 0) (.int 2)) (.int 1)))
  (.cons (.set 2 (.ix (.var 0) (.int 0)))
  (.cons (.set 3 (.ix (.var 0) (.int 1)))
  (.cons (.ife (.one 2) (.cons (.set 3 (.cpopA (.var 2) (.int 0)))
  (.cons (.ife (.cmp .ge (.var 3) (.bin .pow (.int 10) (.int 18))) (.cons (.cins (.var 2) (.int 0) (.bin .fdiv (.var 3) (.var 1)))
  (.cons (.ret (.bin .mod (.var 3) (.var 1)))
  .nil)) .nil)
  (.cons (.set 3 (.bin .add (.var 3) (.ix (.var 0) (.int 1))))
  .nil))) .nil)
  (.cons (.set 4 (.bin .mod (.bin .add (.bin .add (.bin .mul (.bin .mod (.var 3) (.int 2147483629)) (.int 48271)) (.bin .mul (.int 7919) (.ix (.var 0) (.int 2)))) (.int 13)) (.int 2147483647)))
  (.cons (.set 4 (.bin .mod (.bin .add (.bin .add (.bin .mul (.var 4) (.var 4)) (.bin .mul (.int 69621) (.var 4))) (.ix (.var 0) (.int 2))) (.int 2147483587)))
  (.cons (.csub (.var 0) (.int 1) (.var 4))
  (.cons (.ret (.bin .mod (.bin .fdiv (.bin .mod (.bin .mul (.var 4) (.bin .add (.var 4) (.int 40692))) (.int 2147483563)) (.int 64)) (.var 1)))
  .nil))))))))⟩
/-- a list deck at a, its numbers at b -/
def Deck (a b : Addr) (C : CM) : Prop := ∃ (xs : List Int) (s c : Int), a ≠ b ∧ C a = some (.lst [.ref b, .int s, .int c]) ∧ C b = some (.lst (xs.map .int)) ∧ xs.length ≤ 63
theorem cmul_mod (t K j : Int) (h : 0 < K) (q : K ≤ 18446744073709551616) : CMul (t % K) j := by
  have h1 := Int.emod_nonneg t (show K ≠ 0 by omega)
  have h2 := Int.emod_lt_of_pos t h
  exact .inl ⟨by omega, by omega⟩
theorem cmul_l (i j : Int) (h : -18446744073709551616 < i ∧ i < 18446744073709551616) : CMul i j := .inl ⟨by omega, by omega⟩
/-- what a draw gives -/
def DrawR (ds : List D) (C : CM) (P : D → CM → Prop) : Prop := ∃ (a b : Addr) (n : Int), ds = [.ref a, .int n] ∧ Deck a b C ∧ 0 < n ∧ n < 1073741824 ∧
  ∀ v C', 0 ≤ v → v < n → Deck a b C' → (∀ e, e ≠ a → e ≠ b → C' e = C e) → P (.int v) C'
theorem draw_ok (G : Ctx) (a b : Addr) (n : Int) (C : CM) (P : D → CM → Prop) (hD : Deck a b C) (h0 : 0 < n) (h1 : n < 1073741824)
    (k : ∀ v C', 0 ≤ v → v < n → Deck a b C' → (∀ e, e ≠ a → e ≠ b → C' e = C e) → P (.int v) C') : denF G i_law_draw [.ref a, .int n] C P := by
  obtain ⟨xs, s, c, hab, ha, hb, hl⟩ := hD
  refine ⟨rfl, ?_⟩
  have hba : ¬ (b = a) := fun e => hab e.symm
  have fin : ∀ (t s' : Int) (C' : CM), C' a = some (.lst [.ref b, .int s', .int (c + 1)]) → (∃ ys : List Int, C' b = some (.lst (ys.map .int)) ∧ ys.length ≤ 63) → (∀ e, e ≠ a → e ≠ b → C' e = C e) → ∃ C'', CM.Sub C'' C' ∧ P (.int (t % n)) C'' :=
    fun t s' C' e1 ⟨ys, e2, e3⟩ e4 => ⟨C', sub_refl _, k _ _ (Int.emod_nonneg t (by omega)) (Int.emod_lt_of_pos t h0) ⟨ys, s', c + 1, hab, e1, e2, e3⟩ e4⟩
  cases xs with
  | nil =>
    simp only [List.map_nil] at hb
    simp_arith! [i_law_draw, ha, atI_2, atI_1, atI_0, ixN_31, ixN_32, hba, if_neg hba, hb]
    refine ⟨ints_Cmp [], cmul_mod _ _ _ (by decide) (by decide), cmul_l _ _ (by decide), cmul_mod _ _ _ (by decide) (by decide), cmul_l _ _ (by decide), cmul_mod _ _ _ (by decide) (by decide), ⟨by decide, by decide⟩, h0, ?_⟩
    exact fin _ _ _ (if_pos rfl) ⟨[], by rw [if_neg hba, if_neg hba]; exact hb, Nat.zero_le _⟩ (fun e h1 h2 => by rw [if_neg h1, if_neg h1])
  | cons x xs =>
    simp only [List.map_cons] at hb
    simp_arith! [i_law_draw, ha, atI_2, atI_1, atI_0, ixN_31, ixN_32, hba, if_neg hba, if_neg hab, hb, seqIx_0]
    have hs : (xs.map D.int).length < 16777216 := by
      rw [List.length_map]
      rw [List.length_cons] at hl
      omega
    rw [List.length_cons] at hl
    refine ⟨ints_Cmp (x :: xs), ?_⟩
    split
    · refine ⟨⟨h0, h1⟩, hs, h0, ?_⟩
      refine fin _ s _ (by rw [if_neg hab, if_neg hab, if_pos rfl]) ⟨(x / n) :: xs, by rw [if_pos rfl]; rfl, by rw [List.length_cons]; omega⟩ (fun e h1 h2 => by rw [if_neg h2, if_neg h2, if_neg h1])
    · refine ⟨cmul_mod _ _ _ (by decide) (by decide), cmul_l _ _ (by decide), cmul_mod _ _ _ (by decide) (by decide), cmul_l _ _ (by decide), cmul_mod _ _ _ (by decide) (by decide), ⟨by decide, by decide⟩, h0, ?_⟩
      exact fin _ _ _ (if_pos rfl) ⟨xs, by rw [if_neg hba, if_pos rfl], by omega⟩ (fun e h1 h2 => by rw [if_neg h1, if_neg h2, if_neg h1])
theorem sp_draw {tb : List (String × Def)} (h : tb.lookup "_law_draw" = some i_law_draw) : Sp tb "_law_draw" 1 DrawR :=
  sp_mk h fun n _ ds C P ex ⟨a, b, m, e, hD, h0, h1, k⟩ => by subst e; exact draw_ok _ a b m C P hD h0 h1 k
end M61

set_option Elab.async false
set_option linter.all false
set_option autoImplicit false
set_option maxRecDepth 100000
/-! P3: lists in pure form; drawing. -/
namespace M61
open PySem PySem.Spec PyProof.Rows L2
theorem comp_mapL {α : Type} (g f : α → D) {turn : D → CM → (Option D → CM → Prop) → Prop} {xs : List α} {C : CM} {P : List D → CM → Prop} (hl : xs.length ≤ sizeLine)
    (step : ∀ x ∈ xs, ∀ K : Option D → CM → Prop, K (some (f x)) C → turn (g x) C K) (hend : P (xs.map f) C) : compGo turn (xs.map g) [] C P := by
  have key : ∀ (xs : List α) (acc : List D), acc.length + xs.length ≤ sizeLine → (∀ x ∈ xs, ∀ K : Option D → CM → Prop, K (some (f x)) C → turn (g x) C K) → P (acc ++ xs.map f) C → compGo turn (xs.map g) acc C P := by
    intro xs
    induction xs with
    | nil => intro acc _ _ h; rw [List.map_nil, List.append_nil] at h; exact h
    | cons x xs ih =>
      intro acc hl step hend
      rw [List.length_cons] at hl
      exact step x List.mem_cons_self _ ⟨by omega, ih _ (by rw [List.length_append, List.length_singleton]; omega) (fun e h => step e (List.mem_cons_of_mem _ h)) (by rw [List.append_assoc]; exact hend)⟩
  exact key xs [] (by rw [List.length_nil]; omega) step hend
theorem comp_filterL {α : Type} (p : α → Bool) (g f : α → D) {turn : D → CM → (Option D → CM → Prop) → Prop} {xs : List α} {C : CM} {P : List D → CM → Prop} (hl : xs.length ≤ sizeLine)
    (step : ∀ x ∈ xs, ∀ K : Option D → CM → Prop, K (if p x = true then some (f x) else none) C → turn (g x) C K) (hend : P ((xs.filter p).map f) C) : compGo turn (xs.map g) [] C P := by
  have key : ∀ (xs : List α) (acc : List D), acc.length + xs.length ≤ sizeLine → (∀ x ∈ xs, ∀ K : Option D → CM → Prop, K (if p x = true then some (f x) else none) C → turn (g x) C K) → P (acc ++ (xs.filter p).map f) C → compGo turn (xs.map g) acc C P := by
    intro xs
    induction xs with
    | nil => intro acc _ _ h; rw [List.filter_nil, List.map_nil, List.append_nil] at h; exact h
    | cons x xs ih =>
      intro acc hl step hend
      rw [List.length_cons] at hl
      refine step x List.mem_cons_self _ ?_
      rw [List.filter_cons] at hend
      cases hp : p x with
      | true =>
        rw [hp] at hend
        exact ⟨by omega, ih _ (by rw [List.length_append, List.length_singleton]; omega) (fun e h => step e (List.mem_cons_of_mem _ h)) (by rw [List.append_assoc]; exact hend)⟩
      | false =>
        rw [hp] at hend
        exact ih _ (by omega) (fun e h => step e (List.mem_cons_of_mem _ h)) hend
  exact key xs [] (by rw [List.length_nil]; omega) step hend
/-- a comprehension that draws: its elements are of a kind, cells keep what J says -/
theorem comp_all {α : Type} (J : CM → Prop) (Q : α → Prop) (f : α → D) {turn : D → CM → (Option D → CM → Prop) → Prop} {ds : List D} {C : CM} {P : List D → CM → Prop} (hl : ds.length ≤ sizeLine) (h0 : J C)
    (step : ∀ d ∈ ds, ∀ C, J C → ∀ K : Option D → CM → Prop, (∀ y C', Q y → J C' → K (some (f y)) C') → turn d C K) (hend : ∀ (ys : List α) C, ys.length = ds.length → (∀ y ∈ ys, Q y) → J C → P (ys.map f) C) : compGo turn ds [] C P := by
  have key : ∀ (ds : List D) (acc : List α) (C : CM), acc.length + ds.length ≤ sizeLine → J C → (∀ y ∈ acc, Q y) → (∀ d ∈ ds, ∀ C, J C → ∀ K : Option D → CM → Prop, (∀ y C', Q y → J C' → K (some (f y)) C') → turn d C K) →
      (∀ (ys : List α) C, ys.length = acc.length + ds.length → (∀ y ∈ ys, Q y) → J C → P (ys.map f) C) → compGo turn ds (acc.map f) C P := by
    intro ds
    induction ds with
    | nil => intro acc C _ j q _ h; exact h acc C rfl q j
    | cons d ds ih =>
      intro acc C hl j q step hend
      rw [List.length_cons] at hl
      refine step d List.mem_cons_self C j _ fun y C' qy j' => ⟨by rw [List.length_map]; omega, ?_⟩
      have e : acc.map f ++ [f y] = (acc ++ [y]).map f := by rw [List.map_append]; rfl
      rw [e]
      refine ih (acc ++ [y]) C' (by rw [List.length_append, List.length_singleton]; omega) j' (fun z hz => ?_) (fun e h => step e (List.mem_cons_of_mem _ h)) (fun ys C'' e1 => hend ys C'' (by rw [e1, List.length_append, List.length_singleton, List.length_cons]; omega))
      rcases List.mem_append.mp hz with h | h
      · exact q z h
      · rw [List.mem_singleton.mp h]; exact qy
  have := key ds [] C (by rw [List.length_nil]; omega) h0 (fun _ h => absurd h (by simp)) step (fun ys C e => hend ys C (by rw [e, List.length_nil]; omega))
  exact this
theorem for_invL {α : Type} (g : α → D) {tg : Tg} {body : AEnds → Rho → CM → Prop} {A : AEnds} (I : List α → Rho → CM → Prop) {xs : List α} {ρ : Rho} {C : CM} (h0 : I [] ρ C)
    (step : ∀ done x rest ρ C, xs = done ++ x :: rest → I done ρ C → ∀ nx : Rho → CM → Prop, (∀ ρ' C', I (done ++ [x]) ρ' C' → nx ρ' C') → bindT tg (g x) ρ fun ρ1 => body { A with nx := nx, ct := nx, bk := A.nx } ρ1 C)
    (hend : ∀ ρ C, I xs ρ C → A.nx ρ C) : forGo tg body A (xs.map g) ρ C := by
  have key : ∀ (rest done : List α) (ρ : Rho) (C : CM), xs = done ++ rest → I done ρ C → forGo tg body A (rest.map g) ρ C := by
    intro rest
    induction rest with
    | nil => intro done ρ C e i; rw [List.append_nil] at e; subst e; exact hend ρ C i
    | cons d rest ih =>
      intro done ρ C e i
      exact step done d rest ρ C e i _ fun ρ' C' j => ih (done ++ [d]) ρ' C' (by rw [e, List.append_assoc]; rfl) j
  exact key xs [] ρ C rfl h0
theorem rangeD_map (n : Nat) : rangeD 0 1 n = (List.range n).map fun i => .int ((i : Nat) : Int) := by
  unfold rangeD
  refine List.map_congr_left fun i _ => ?_
  congr 1; omega
theorem zipD_map {α β : Type} (f : α → D) (g : β → D) : ∀ (xs : List α) (ys : List β), zipD (xs.map f) (ys.map g) = (xs.zip ys).map fun p => .tup [f p.1, g p.2]
  | [], _ => by cases ‹List β› <;> rfl
  | _ :: _, [] => rfl
  | x :: xs, y :: ys => by
    rw [List.map_cons, List.map_cons, List.zip_cons_cons, List.map_cons]
    show _ :: zipD (xs.map f) (ys.map g) = _
    rw [zipD_map f g xs ys]
theorem enumD_map {α : Type} (f : α → D) : ∀ (xs : List α) (k : Nat), enumD k (xs.map f) = (xs.zipIdx k).map fun p => .tup [.int (p.2 : Nat), f p.1]
  | [], _ => rfl
  | x :: xs, k => by
    rw [List.map_cons, List.zipIdx_cons, List.map_cons]
    show _ :: enumD (k + 1) (xs.map f) = _
    rw [enumD_map f xs (k + 1)]
/-! ### slices -/
def cutL {α : Type} (xs : List α) (lo hi : Option Int) : List α := (xs.drop (HT.sIx xs.length 0 lo)).take (HT.sIx xs.length xs.length hi - HT.sIx xs.length 0 lo)
theorem cutD_map {α : Type} (f : α → D) (xs : List α) (lo hi : Option Int) : cutD (xs.map f) lo hi = (cutL xs lo hi).map f := by
  unfold cutD cutL
  rw [List.length_map, ← List.map_drop, ← List.map_take]
theorem six_nat (n d k : Nat) : HT.sIx n d (some (k : Int)) = min k n := by
  show (if ((k : Nat) : Int) < 0 then (((k : Nat) : Int) + (n : Int)).toNat else min ((k : Nat) : Int).toNat n) = _
  rw [if_neg (by omega), Int.toNat_natCast]
theorem cut_first {α : Type} (xs : List α) : cutL xs none (some (-1)) = xs.dropLast := by
  unfold cutL
  show (xs.drop 0).take (((-1 : Int) + (xs.length : Int)).toNat - 0) = _
  rw [List.drop_zero, List.dropLast_eq_take]
  congr 1; omega
theorem cut_rest {α : Type} (xs : List α) : cutL xs (some 1) none = xs.drop 1 := by
  unfold cutL
  show (xs.drop (min 1 xs.length)).take (xs.length - min 1 xs.length) = _
  cases xs with
  | nil => rfl
  | cons x xs =>
    have e : min 1 (x :: xs).length = 1 := by rw [List.length_cons]; omega
    rw [e]
    rw [List.take_of_length_le (by rw [List.length_drop]; omega)]
theorem cut_to {α : Type} (xs : List α) (k : Nat) : cutL xs none (some (k : Int)) = xs.take k := by
  unfold cutL
  rw [six_nat]
  show (xs.drop 0).take (min k xs.length - 0) = _
  rw [List.drop_zero, Nat.sub_zero]
  rcases Nat.le_total k xs.length with h | h
  · rw [Nat.min_eq_left h]
  · rw [Nat.min_eq_right h, List.take_of_length_le (Nat.le_refl _), List.take_of_length_le h]
theorem cut_from {α : Type} (xs : List α) (k : Nat) : cutL xs (some (k : Int)) none = xs.drop k := by
  unfold cutL
  rw [six_nat]
  show (xs.drop (min k xs.length)).take (xs.length - min k xs.length) = _
  rcases Nat.le_total k xs.length with h | h
  · rw [Nat.min_eq_left h, List.take_of_length_le (by rw [List.length_drop]; omega)]
  · rw [Nat.min_eq_right h, List.drop_eq_nil_of_le (Nat.le_refl _), List.drop_eq_nil_of_le h, List.take_nil]
theorem atI_in {α : Type} {xs : List α} {i : Int} (h0 : 0 ≤ i) (h1 : i < xs.length) : ∃ x, x ∈ xs ∧ xs[i.toNat]? = some x ∧ atI xs i = some x := by
  have h : i.toNat < xs.length := by omega
  refine ⟨xs[i.toNat], List.getElem_mem h, List.getElem?_eq_getElem h, ?_⟩
  have := atI_nat (j := i.toNat) (List.getElem?_eq_getElem h)
  rwa [Int.toNat_of_nonneg h0] at this
theorem atI_map {α : Type} (f : α → D) (xs : List α) (i : Int) : atI (xs.map f) i = (atI xs i).map f := by
  unfold atI
  rw [List.length_map]
  cases ixN xs.length i with
  | none => rfl
  | some j => show (xs.map f)[j]? = (xs[j]?).map f; rw [List.getElem?_map]
theorem atI_end {α : Type} {xs : List α} (h : xs ≠ []) : ∃ x, x ∈ xs ∧ xs.getLast? = some x ∧ atI xs (-1) = some x := by
  refine ⟨xs.getLast h, List.getLast_mem h, List.getLast?_eq_getLast h, ?_⟩
  have := atI_last xs.dropLast (xs.getLast h)
  rwa [List.dropLast_concat_getLast] at this
section
variable {tb : List (String × Def)} {n : Nat} {a b : Addr} {m : Int} {C : CM} {P : D → CM → Prop} {ex : ExP}
theorem use_draw (hd : Sp tb "_law_draw" 1 DrawR) (hn : 1 ≤ n) (hD : Deck a b C) (h0 : 0 < m) (h1 : m < 1073741824)
    (k : ∀ v C', 0 ≤ v → v < m → Deck a b C' → (∀ e, e ≠ a → e ≠ b → C' e = C e) → P (.int v) C') : Gm tb n "_law_draw" [.ref a, .int m] C P ex :=
  hd n hn _ _ _ _ ⟨a, b, m, rfl, hD, h0, h1, k⟩
end
end M61

set_option Elab.async false
set_option linter.all false
set_option autoImplicit false
set_option maxRecDepth 100000
/-! P4: step by step: what stands behind a statement stays folded. -/
namespace M61
open PySem PySem.Spec PyProof.Rows L2
/-- a block, folded -/
def blk (G : Ctx) (b : Ss) (A : AEnds) (ρ : Rho) (C : CM) : Prop := denSs G b A ρ C
theorem blk_of {G : Ctx} {b : Ss} {A : AEnds} {ρ : Rho} {C : CM} (h : denSs G b A ρ C) : blk G b A ρ C := h
/-- a turn of a comprehension, folded -/
def turn (G : Ctx) (own : List Nat) (elt : E) (tg : Tg) (c : Oc) (ρ1 : Rho) (d : D) (C2 : CM) (K : Option D → CM → Prop) : Prop := bindT tg d (wipeR ρ1 own) fun ρ2 => denC G c ρ2 C2 fun b ρ3 C3 => ρ3 = ρ2 ∧
        if b = true then denE G elt ρ3 C3 fun y ρ4 C4 => ρ4 = ρ2 ∧ K (some y) C4 else K none C3
theorem turn_of {G : Ctx} {own : List Nat} {elt : E} {tg : Tg} {c : Oc} {ρ1 : Rho} {d : D} {C2 : CM} {K : Option D → CM → Prop} (h : bindT tg d (wipeR ρ1 own) fun ρ2 => denC G c ρ2 C2 fun b ρ3 C3 => ρ3 = ρ2 ∧
        if b = true then denE G elt ρ3 C3 fun y ρ4 C4 => ρ4 = ρ2 ∧ K (some y) C4 else K none C3) : turn G own elt tg c ρ1 d C2 K := h
/-- a test, folded -/
def tst (G : Ctx) (t : T) (ρ : Rho) (C : CM) (K : Bool → Rho → CM → Prop) : Prop := denT G t ρ C K
theorem tst_of {G : Ctx} {t : T} {ρ : Rho} {C : CM} {K : Bool → Rho → CM → Prop} (h : denT G t ρ C K) : tst G t ρ C K := h
section
variable (G : Ctx) (A : AEnds) (ρ : Rho) (C : CM) (i j l : Nat) (e k o : E) (es : Es) (ll : L) (t : T) (a b : Ss) (tg : Tg) (it : I) (bo : Bop) (s : S) (ss : Ss) (P : List D → Rho → CM → Prop)
theorem ss_nil' : denSs G .nil A ρ C = A.nx ρ C := rfl
theorem ss_cons' : denSs G (.cons s ss) A ρ C = denS G s { A with nx := blk G ss A } ρ C := rfl
theorem s_set' : denS G (.set i e) A ρ C = denE G e ρ C fun d ρ1 C1 => A.nx (ρ1.set i (some (.dat d))) C1 := rfl
theorem s_own' : denS G (.own i ll) A ρ C = denL G ll ρ C fun ds ρ1 C1 => A.nx (ρ1.set i (some (.own ds))) C1 := rfl
theorem s_setF' : denS G (.setF i ll) A ρ C = denL G ll ρ C fun ds ρ1 C1 => A.nx (ρ1.set i (some (.dat (.lst ds)))) C1 := rfl
theorem s_unp' : denS G (.unp tg e) A ρ C = denE G e ρ C fun d ρ1 C1 => bindT tg d ρ1 fun ρ2 => A.nx ρ2 C1 := rfl
def par2K (A : AEnds) (i j : Nat) : List D → Rho → CM → Prop
  | [d, e], ρ1, C1 => A.nx ((ρ1.set i (some (.dat d))).set j (some (.dat e))) C1
  | _, _, _ => False
theorem par2K_e (d e : D) : par2K A i j [d, e] ρ C = A.nx ((ρ.set i (some (.dat d))).set j (some (.dat e))) C := rfl
theorem s_par2' : denS G (.par2 i j es) A ρ C = denEs G es ρ C (par2K A i j) := by
  first
  | rfl
  | (show denEs G es ρ C _ = denEs G es ρ C _; congr 1; funext ds ρ1 C1; rcases ds with _ | ⟨d, _ | ⟨e, _ | ⟨f, r⟩⟩⟩ <;> rfl)
def par3K (A : AEnds) (i j l : Nat) : List D → Rho → CM → Prop
  | [d, e, f], ρ1, C1 => A.nx (((ρ1.set i (some (.dat d))).set j (some (.dat e))).set l (some (.dat f))) C1
  | _, _, _ => False
theorem par3K_e (d e f : D) : par3K A i j l [d, e, f] ρ C = A.nx (((ρ.set i (some (.dat d))).set j (some (.dat e))).set l (some (.dat f))) C := rfl
theorem s_par3' : denS G (.par3 i j l es) A ρ C = denEs G es ρ C (par3K A i j l) := by
  first
  | rfl
  | (show denEs G es ρ C _ = denEs G es ρ C _; congr 1; funext ds ρ1 C1; rcases ds with _ | ⟨d, _ | ⟨e, _ | ⟨f, _ | ⟨g, r⟩⟩⟩⟩ <;> rfl)
theorem s_app' : denS G (.app i e) A ρ C = varO ρ i fun _ => denE G e ρ C fun d ρ1 C1 => varO ρ1 i fun xs => xs.length < sizeLine ∧ A.nx (ρ1.set i (some (.own (xs ++ [d])))) C1 := rfl
def extK (A : AEnds) (i : Nat) (xs : List D) (ρ1 : Rho) (C1 : CM) : D → Prop
  | .lst ys => xs.length + ys.length ≤ sizeLine ∧ A.nx (ρ1.set i (some (.own (xs ++ ys)))) C1
  | _ => False
theorem extK_e (xs ys : List D) : extK A i xs ρ C (.lst ys) = (xs.length + ys.length ≤ sizeLine ∧ A.nx (ρ.set i (some (.own (xs ++ ys)))) C) := rfl
theorem s_ext' : denS G (.ext i e) A ρ C = varO ρ i fun _ => denE G e ρ C fun d ρ1 C1 => varO ρ1 i fun xs => extK A i xs ρ1 C1 d := by
  first
  | rfl
  | (show varO ρ i _ = varO ρ i _; congr 1; funext _; congr 1; funext d ρ1 C1; congr 1; funext xs; cases d <;> rfl)
def csubK (A : AEnds) (d : D) (ρ3 : Rho) (C3 : CM) : D → D → Prop
  | .ref a, .int j => ∃ xs n, C3 a = some (.lst xs) ∧ ixN xs.length j = some n ∧ A.nx ρ3 (fun b => if b = a then some (.lst (xs.set n d)) else C3 b)
  | _, _ => False
theorem csubK_e (d : D) (a : Addr) (j : Int) : csubK A d ρ C (.ref a) (.int j) = ∃ xs n, C a = some (.lst xs) ∧ ixN xs.length j = some n ∧ A.nx ρ (fun b => if b = a then some (.lst (xs.set n d)) else C b) := rfl
theorem s_csub' : denS G (.csub o k e) A ρ C = denE G e ρ C fun d ρ1 C1 => denE G o ρ1 C1 fun x ρ2 C2 => denE G k ρ2 C2 fun y ρ3 C3 => csubK A d ρ3 C3 x y := by
  first
  | rfl
  | (show denE G e ρ C _ = denE G e ρ C _; congr 1; funext d ρ1 C1; congr 1; funext x ρ2 C2; congr 1; funext y ρ3 C3; cases x <;> cases y <;> rfl)
def cappK (A : AEnds) (G : Ctx) (e : E) (ρ1 : Rho) (C1 : CM) : D → Prop
  | .ref a => ∃ xs0, C1 a = some (.lst xs0) ∧ denE G e ρ1 C1 fun d ρ2 C2 => ∃ xs, C2 a = some (.lst xs) ∧ xs.length < sizeLine ∧ A.nx ρ2 (fun b => if b = a then some (.lst (xs ++ [d])) else C2 b)
  | _ => False
theorem cappK_e (a : Addr) : cappK A G e ρ C (.ref a) = ∃ xs0, C a = some (.lst xs0) ∧ denE G e ρ C fun d ρ2 C2 => ∃ xs, C2 a = some (.lst xs) ∧ xs.length < sizeLine ∧ A.nx ρ2 (fun b => if b = a then some (.lst (xs ++ [d])) else C2 b) := rfl
theorem s_capp' : denS G (.capp o e) A ρ C = denE G o ρ C fun x ρ1 C1 => cappK A G e ρ1 C1 x := by
  first
  | rfl
  | (show denE G o ρ C _ = denE G o ρ C _; congr 1; funext x ρ1 C1; cases x <;> rfl)
def augK (A : AEnds) (i : Nat) (ρ1 : Rho) (C1 : CM) : Bop → D → D → Prop
  | .add, .int a, .int b => A.nx (ρ1.set i (some (.dat (.int (a + b))))) C1
  | .sub, .int a, .int b => A.nx (ρ1.set i (some (.dat (.int (a - b))))) C1
  | _, _, _ => False
theorem augK_a (x y : Int) : augK A i ρ C .add (.int x) (.int y) = A.nx (ρ.set i (some (.dat (.int (x + y))))) C := rfl
theorem augK_s (x y : Int) : augK A i ρ C .sub (.int x) (.int y) = A.nx (ρ.set i (some (.dat (.int (x - y))))) C := rfl
theorem s_aug' : denS G (.aug i bo e) A ρ C = varD ρ i fun x => denE G e ρ C fun y ρ1 C1 => augK A i ρ1 C1 bo x y := by
  first
  | rfl
  | (show varD ρ i _ = varD ρ i _; congr 1; funext x; congr 1; funext y ρ1 C1; cases bo <;> cases x <;> cases y <;> rfl)
def osetK (A : AEnds) (i : Nat) (d : D) (xs : List D) (ρ2 : Rho) (C2 : CM) : D → Prop
  | .int j => ∃ n, ixN xs.length j = some n ∧ A.nx (ρ2.set i (some (.own (xs.set n d)))) C2
  | _ => False
theorem osetK_e (d : D) (xs : List D) (j : Int) : osetK A i d xs ρ C (.int j) = ∃ n, ixN xs.length j = some n ∧ A.nx (ρ.set i (some (.own (xs.set n d)))) C := rfl
theorem s_oset' : denS G (.oset i k e) A ρ C = denE G e ρ C fun d ρ1 C1 => varO ρ1 i fun _ => denE G k ρ1 C1 fun x ρ2 C2 => varO ρ2 i fun xs => osetK A i d xs ρ2 C2 x := by
  first
  | rfl
  | (show denE G e ρ C _ = denE G e ρ C _; congr 1; funext d ρ1 C1; congr 1; funext _; congr 1; funext x ρ2 C2; congr 1; funext xs; cases x <;> rfl)
def dsetK (A : AEnds) (k : String) (d : D) (ρ2 : Rho) (C2 : CM) : D → Prop
  | .ref p => ∃ kvs, C2 p = some (.dct kvs) ∧ kvs.length < sizeLine ∧ A.nx ρ2 (fun b => if b = p then some (.dct (dctPut kvs (Sum.inr (Str.ofString k)) d)) else C2 b)
  | _ => False
theorem dsetK_e (kk : String) (d : D) (p : Addr) : dsetK A kk d ρ C (.ref p) = ∃ kvs, C p = some (.dct kvs) ∧ kvs.length < sizeLine ∧ A.nx ρ (fun b => if b = p then some (.dct (dctPut kvs (Sum.inr (Str.ofString kk)) d)) else C b) := rfl
theorem s_dset' (kk : String) : denS G (.dset o kk e) A ρ C = denE G e ρ C fun d ρ1 C1 => denE G o ρ1 C1 fun x ρ2 C2 => dsetK A kk d ρ2 C2 x := by
  first
  | rfl
  | (show denE G e ρ C _ = denE G e ρ C _; congr 1; funext d ρ1 C1; congr 1; funext x ρ2 C2; cases x <;> rfl)
theorem s_exp' : denS G (.exp e) A ρ C = denE G e ρ C fun _ ρ1 C1 => A.nx ρ1 C1 := rfl
theorem s_ife' : denS G (.ife t a b) A ρ C = denT G t ρ C fun k ρ1 C1 => if k = true then blk G a A ρ1 C1 else blk G b A ρ1 C1 := rfl
theorem s_for' : denS G (.for tg it b) A ρ C = denI G it ρ C fun ds ρ1 C1 => forGo tg (blk G b) A ds ρ1 C1 := rfl
def forcK (G : Ctx) (tg : Tg) (b : Ss) (A : AEnds) (ρ1 : Rho) (C1 : CM) : D → Prop
  | .ref a => ∃ ns : List Int, forGoC a ns tg (blk G b) A ns ρ1 C1
  | _ => False
theorem forcK_e (G : Ctx) (tg : Tg) (b : Ss) (a : Addr) : forcK G tg b A ρ C (.ref a) = ∃ ns : List Int, forGoC a ns tg (blk G b) A ns ρ C := rfl
theorem s_forc' : denS G (.forc tg e b) A ρ C = denE G e ρ C fun x ρ1 C1 => forcK G tg b A ρ1 C1 x := by
  first
  | rfl
  | (show denE G e ρ C _ = denE G e ρ C _; congr 1; funext d ρ1 C1; cases d <;> rfl)
theorem s_whl' : denS G (.whl t b) A ρ C = ∃ n, whlGo (tst G t) (blk G b) A n ρ C := rfl
theorem s_ret' : denS G (.ret e) A ρ C = denE G e ρ C fun d _ C1 => A.rt d C1 := rfl
theorem s_ret0' : denS G .ret0 A ρ C = A.rt .non C := rfl
theorem s_pass' : denS G .pass A ρ C = A.nx ρ C := rfl
theorem s_brk' : denS G .brk A ρ C = A.bk ρ C := rfl
theorem s_cnt' : denS G .cnt A ρ C = A.ct ρ C := rfl
theorem l_comp' (own : List Nat) (el : E) (c : Oc) : denL G (.comp own el tg it c) ρ C P = denI G it ρ C fun ds ρ1 C1 => compGo (turn G own el tg c ρ1) ds [] C1 fun acc C4 => P acc ρ1 C4 := rfl
def compcK (G : Ctx) (own : List Nat) (el : E) (tg : Tg) (c : Oc) (P : List D → Rho → CM → Prop) (ρ1 : Rho) (C1 : CM) : D → Prop
  | .ref a => ∃ ns : List Int, compGoC a ns (turn G own el tg c ρ1) ns [] C1 fun acc C4 => P acc ρ1 C4
  | _ => False
theorem compcK_e (own : List Nat) (el : E) (c : Oc) (a : Addr) : compcK G own el tg c P ρ C (.ref a) = ∃ ns : List Int, compGoC a ns (turn G own el tg c ρ) ns [] C fun acc C4 => P acc ρ C4 := rfl
theorem l_compc' (own : List Nat) (el : E) (c : Oc) : denL G (.compc own el tg e c) ρ C P = denE G e ρ C fun x ρ1 C1 => compcK G own el tg c P ρ1 C1 x := by
  first
  | rfl
  | (show denE G e ρ C _ = denE G e ρ C _; congr 1; funext d ρ1 C1; cases d <;> rfl)
theorem l_lit' : denL G (.lit es) ρ C P = denEs G es ρ C fun ds ρ1 C1 => ds.length ≤ sizeLine ∧ P ds ρ1 C1 := rfl
theorem l_cat' (x y : E) : denL G (.cat x y) ρ C P = denE G x ρ C fun x ρ1 C1 => denE G y ρ1 C1 fun y ρ2 C2 => ∃ xs ys, lstD C2 x = some xs ∧ lstD C2 y = some ys ∧ xs.length + ys.length ≤ sizeLine ∧ P (xs ++ ys) ρ2 C2 := rfl
theorem l_cato' (x : E) : denL G (.cato x i) ρ C P = denE G x ρ C fun x ρ1 C1 => varO ρ1 i fun ys => ∃ xs, lstD C1 x = some xs ∧ xs.length + ys.length ≤ sizeLine ∧ P (xs ++ ys) ρ1 C1 := rfl
theorem l_rvd' : denL G (.rvd e) ρ C P = denE G e ρ C fun x ρ1 C1 => ∃ xs, lstD C1 x = some xs ∧ P xs.reverse ρ1 C1 := rfl
theorem l_lrv' : denL G (.lrv e) ρ C P = denE G e ρ C fun x ρ1 C1 => ∃ xs, lstD C1 x = some xs ∧ P xs.reverse ρ1 C1 := rfl
theorem l_ls2' : denL G (.ls2 e) ρ C P = denE G e ρ C fun x ρ1 C1 => ∃ xs, lstD C1 x = some xs ∧ P (xs.take (xs.length - 1)).reverse ρ1 C1 := rfl
theorem l_list' : denL G (.list e) ρ C P = denE G e ρ C fun x ρ1 C1 => ∃ xs, sqD x = some xs ∧ P xs ρ1 C1 := by
  show denE G e ρ C _ = denE G e ρ C _
  congr 1; funext x ρ1 C1
  cases x with
  | tup xs => exact propext ⟨fun h => ⟨_, rfl, h⟩, fun ⟨_, h, q⟩ => by cases h; exact q⟩
  | lst xs => exact propext ⟨fun h => ⟨_, rfl, h⟩, fun ⟨_, h, q⟩ => by cases h; exact q⟩
  | _ => exact propext ⟨fun h => h.elim, fun ⟨_, h, q⟩ => by cases h⟩
def srtK (P : List D → Rho → CM → Prop) (ρ1 : Rho) (C1 : CM) : D → Prop
  | .lst xs => ∃ ns, intsOf xs = some ns ∧ P ((sortI ns).map D.int) ρ1 C1
  | _ => False
theorem srtK_e (xs : List D) : srtK P ρ C (.lst xs) = ∃ ns, intsOf xs = some ns ∧ P ((sortI ns).map D.int) ρ C := rfl
theorem l_srt' : denL G (.srt e) ρ C P = denE G e ρ C fun x ρ1 C1 => srtK P ρ1 C1 x := by
  first
  | rfl
  | (show denE G e ρ C _ = denE G e ρ C _; congr 1; funext x ρ1 C1; cases x <;> rfl)
def srrK (P : List D → Rho → CM → Prop) (ρ1 : Rho) (C1 : CM) : D → Prop
  | .lst xs => ∃ ns, intsOf xs = some ns ∧ P ((sortI ns).reverse.map D.int) ρ1 C1
  | _ => False
theorem srrK_e (xs : List D) : srrK P ρ C (.lst xs) = ∃ ns, intsOf xs = some ns ∧ P ((sortI ns).reverse.map D.int) ρ C := rfl
theorem l_srr' : denL G (.srr e) ρ C P = denE G e ρ C fun x ρ1 C1 => srrK P ρ1 C1 x := by
  first
  | rfl
  | (show denE G e ρ C _ = denE G e ρ C _; congr 1; funext x ρ1 C1; cases x <;> rfl)
def lrgK (P : List D → Rho → CM → Prop) (ρ1 : Rho) (C1 : CM) : D → D → Prop
  | .int i, .int j => RgOk i j ∧ P (rangeD i 1 (j - i).toNat) ρ1 C1
  | _, _ => False
theorem lrgK_e (i j : Int) : lrgK P ρ C (.int i) (.int j) = (RgOk i j ∧ P (rangeD i 1 (j - i).toNat) ρ C) := rfl
theorem l_lrg1' : denL G (.lrg1 e) ρ C P = denE G e ρ C fun x ρ1 C1 => lrgK P ρ1 C1 (.int 0) x := by
  first
  | rfl
  | (show denE G e ρ C _ = denE G e ρ C _; congr 1; funext x ρ1 C1; cases x <;> rfl)
theorem l_lrg2' (x y : E) : denL G (.lrg2 x y) ρ C P = denE G x ρ C fun x ρ1 C1 => denE G y ρ1 C1 fun y ρ2 C2 => lrgK P ρ2 C2 x y := by
  first
  | rfl
  | (show denE G x ρ C _ = denE G x ρ C _; congr 1; funext x ρ1 C1; congr 1; funext y ρ2 C2; cases x <;> cases y <;> rfl)
def repK (P : List D → Rho → CM → Prop) (ρ1 : Rho) (C1 : CM) : D → D → Prop
  | .lst xs, .int k => -(2 ^ 63) ≤ k ∧ k < 2 ^ 63 ∧ xs.length * k.toNat ≤ sizeLine ∧ P (List.replicate k.toNat xs).flatten ρ1 C1
  | _, _ => False
theorem repK_e (xs : List D) (k : Int) : repK P ρ C (.lst xs) (.int k) = (-(2 ^ 63) ≤ k ∧ k < 2 ^ 63 ∧ xs.length * k.toNat ≤ sizeLine ∧ P (List.replicate k.toNat xs).flatten ρ C) := rfl
theorem l_rep' (x y : E) : denL G (.rep x y) ρ C P = denE G x ρ C fun x ρ1 C1 => denE G y ρ1 C1 fun y ρ2 C2 => repK P ρ2 C2 x y := by
  first
  | rfl
  | (show denE G x ρ C _ = denE G x ρ C _; congr 1; funext x ρ1 C1; congr 1; funext y ρ2 C2; cases x <;> cases y <;> rfl)
def fsetK (A : AEnds) (cls f : String) (d : D) (ρ2 : Rho) (C2 : CM) : D → Prop
  | .ref p => ∃ fs, C2 p = some (.ins cls fs) ∧ fs.length < 1000 ∧ A.nx ρ2 (setC C2 p (.ins cls (fldPut f d fs)))
  | _ => False
theorem fsetK_e (cls f : String) (d : D) (p : Addr) : fsetK A cls f d ρ C (.ref p) = ∃ fs, C p = some (.ins cls fs) ∧ fs.length < 1000 ∧ A.nx ρ (setC C p (.ins cls (fldPut f d fs))) := rfl
theorem s_fset' (cls f : String) : denS G (.fset cls f o e) A ρ C = denE G e ρ C fun d ρ1 C1 => denE G o ρ1 C1 fun x ρ2 C2 => fsetK A cls f d ρ2 C2 x := by
  first
  | rfl
  | (show denE G e ρ C _ = denE G e ρ C _; congr 1; funext d ρ1 C1; congr 1; funext x ρ2 C2; cases x <;> rfl)
def dptK (A : AEnds) (d : D) (ks : List D) (ρ3 : Rho) (C3 : CM) : D → Prop
  | .ref p => ∃ kvs kk, C3 p = some (.dtp kvs) ∧ keyOf ks = some kk ∧ ks.length ≤ 100 ∧ kvs.length < sizeLine ∧ A.nx ρ3 (setC C3 p (.dtp (dtpPut kvs kk d)))
  | _ => False
theorem dptK_e (d : D) (ks : List D) (p : Addr) : dptK A d ks ρ C (.ref p) = ∃ kvs kk, C p = some (.dtp kvs) ∧ keyOf ks = some kk ∧ ks.length ≤ 100 ∧ kvs.length < sizeLine ∧ A.nx ρ (setC C p (.dtp (dtpPut kvs kk d))) := rfl
theorem s_dpt' : denS G (.dpt o es e) A ρ C = denE G e ρ C fun d ρ1 C1 => denE G o ρ1 C1 fun x ρ2 C2 => denEs G es ρ2 C2 fun ks ρ3 C3 => dptK A d ks ρ3 C3 x := by
  first
  | rfl
  | (show denE G e ρ C _ = denE G e ρ C _; congr 1; funext d ρ1 C1; congr 1; funext x ρ2 C2; congr 1; funext ks ρ3 C3; cases x <;> rfl)
theorem s_ndef' (mk : String) : denS G (.ndef i mk) A ρ C = ∀ f, CM.fresh f C → (∀ (j : Nat) (d : D), ρ[j]? = some (some (Dv.dat d)) → d.noc f = true) → A.nx (ρ.set i (some (.dat (.opn mk f G.ex.cl)))) C := rfl
theorem s_mkr' (mk : String) (js : List Nat) : denS G (.mkr mk js) A ρ C = ∃ caps, capsOf ρ js = some caps ∧ ∀ f, CM.fresh f C → D.nocs f caps = true → A.rt (.clo mk f caps) C := rfl
theorem s_mkc' (cls : String) : denS G (.mkc cls) A ρ C = ∃ ds, capsOf ρ (List.range ρ.length) = some ds ∧ ∀ a, C a = none → G.Γ (methKey cls "__init__") (.ref a :: ds) (setC C a (.ins cls [])) (fun d C2 => d = .non ∧ A.rt (.ref a) C2) G.ex := rfl
def oddK (P : List D → Rho → CM → Prop) (ρ1 : Rho) (C1 : CM) : D → Prop
  | .lst xs => P (oddD xs) ρ1 C1
  | _ => False
theorem oddK_e (xs : List D) : oddK P ρ C (.lst xs) = P (oddD xs) ρ C := rfl
theorem l_odd' : denL G (.odd e) ρ C P = denE G e ρ C fun x ρ1 C1 => oddK P ρ1 C1 x := by
  first
  | rfl
  | (show denE G e ρ C _ = denE G e ρ C _; congr 1; funext x ρ1 C1; cases x <;> rfl)
end
/-- slots set -/
def setM (ρ : Rho) : List Nat → List (Option Dv) → Rho
  | m :: ms, x :: xs => setM (ρ.set m x) ms xs
  | _, _ => ρ
theorem setM_nil (ρ : Rho) (xs : List (Option Dv)) : setM ρ [] xs = ρ := by cases xs <;> rfl
theorem setM_cons (ρ : Rho) (m : Nat) (ms : List Nat) (x : Option Dv) (xs : List (Option Dv)) : setM ρ (m :: ms) (x :: xs) = setM (ρ.set m x) ms xs := rfl
/-- a loop by what holds behind so many turns; slots ms alone are changed -/
theorem for_m {α : Type} (g : α → D) (ms : List Nat) (I : List α → List (Option Dv) → CM → Prop) {tg : Tg} {body : AEnds → Rho → CM → Prop} {A : AEnds} {xs : List α} {ρ : Rho} {C : CM} (ys0 : List (Option Dv)) (e0 : setM ρ ms ys0 = ρ) (h0 : I [] ys0 C)
    (step : ∀ done x rest ys C, xs = done ++ x :: rest → I done ys C → ∀ nx : Rho → CM → Prop, (∀ ys' C', I (done ++ [x]) ys' C' → nx (setM ρ ms ys') C') → bindT tg (g x) (setM ρ ms ys) fun ρ1 => body { A with nx := nx, ct := nx, bk := A.nx } ρ1 C)
    (hend : ∀ ys C, I xs ys C → A.nx (setM ρ ms ys) C) : forGo tg body A (xs.map g) ρ C := by
  refine for_invL g (I := fun done ρ' C' => ∃ ys, ρ' = setM ρ ms ys ∧ I done ys C') ⟨ys0, e0.symm, h0⟩ (fun done x rest ρ' C' e ⟨ys, hy, hi⟩ nx k => ?_) fun ρ' C' ⟨ys, hy, hi⟩ => ?_
  · subst hy
    exact step done x rest ys C' e hi nx fun ys' C'' h => k _ _ ⟨ys', rfl, h⟩
  · subst hy; exact hend ys C' hi
/-- over a cell's numbers -/
theorem for_cell {ns : List Int} {a : Addr} (ms : List Nat) (I : List (Option Dv) → CM → Prop) {tg : Tg} {body : AEnds → Rho → CM → Prop} {A : AEnds} {ρ : Rho} {C : CM} (ys0 : List (Option Dv)) (e0 : setM ρ ms ys0 = ρ) (h0 : I ys0 C) (hc : ∀ ys C, I ys C → C a = some (.lst (ns.map .int)))
    (step : ∀ x ∈ ns, ∀ ys C, I ys C → ∀ nx : Rho → CM → Prop, (∀ ys' C', I ys' C' → nx (setM ρ ms ys') C') → bindT tg (.int x) (setM ρ ms ys) fun ρ1 => body { A with nx := nx, ct := nx, bk := A.nx } ρ1 C)
    (hend : ∀ ys C, I ys C → A.nx (setM ρ ms ys) C) : forGoC a ns tg body A ns ρ C := by
  have key : ∀ (l : List Int) (ys : List (Option Dv)) (C : CM), (∀ x ∈ l, x ∈ ns) → I ys C → forGoC a ns tg body A l (setM ρ ms ys) C := by
    intro l
    induction l with
    | nil => intro ys C _ hI; exact ⟨hc ys C hI, hend ys C hI⟩
    | cons x l ih =>
      intro ys C hm hI
      exact ⟨hc ys C hI, step x (hm x List.mem_cons_self) ys C hI _ fun ys' C' hI' => ih ys' C' (fun z hz => hm z (List.mem_cons_of_mem _ hz)) hI'⟩
  rw [← e0]
  exact key ns ys0 C (fun _ h => h) h0
/-- .. that ends with False at the first that isn't so -/
theorem for_all {α : Type} (g : α → D) (p : α → Bool) (ms : List Nat) {tg : Tg} {body : AEnds → Rho → CM → Prop} {A : AEnds} {xs : List α} {ρ : Rho} {C : CM} (m : Nat) (ys0 : List (Option Dv)) (e0 : setM ρ ms ys0 = ρ) (l0 : ys0.length = m)
    (step : ∀ x ∈ xs, ∀ ys, ys.length = m → ∀ nx : Rho → CM → Prop, (p x = true → ∀ ys', ys'.length = m → nx (setM ρ ms ys') C) → (p x = false → A.rt (.bl false) C) → bindT tg (g x) (setM ρ ms ys) fun ρ1 => body { A with nx := nx, ct := nx, bk := A.nx } ρ1 C)
    (hend : xs.all p = true → ∀ ys, ys.length = m → A.nx (setM ρ ms ys) C) (hf : xs.all p = false → A.rt (.bl false) C) : forGo tg body A (xs.map g) ρ C := by
  have key : ∀ (l : List α) (ρ' : Rho) (ys : List (Option Dv)), ρ' = setM ρ ms ys → ys.length = m → (∀ x ∈ l, x ∈ xs) → (l.all p = true → ∀ ys, ys.length = m → A.nx (setM ρ ms ys) C) → (l.all p = false → A.rt (.bl false) C) → forGo tg body A (l.map g) ρ' C := by
    intro l
    induction l with
    | nil => intro ρ' ys e hl _ h1 _; subst e; exact h1 rfl ys hl
    | cons x l ih =>
      intro ρ' ys e hl hin h1 h2
      subst e
      refine step x (hin x List.mem_cons_self) ys hl _ (fun hp ys' hl' => ih _ ys' rfl hl' (fun y hy => hin y (List.mem_cons_of_mem _ hy)) (fun q => h1 ?_) (fun q => h2 ?_)) fun hp => h2 ?_
      · rw [List.all_cons, hp, q]; rfl
      · rw [List.all_cons, hp, q]; rfl
      · rw [List.all_cons, hp]; rfl
  exact key xs ρ ys0 e0.symm l0 (fun _ h => h) hend hf
/-- a comprehension by what holds behind so many turns -/
theorem comp_invL {α β : Type} (g : α → D) (f : β → D) (I : List α → List β → CM → Prop) {tn : D → CM → (Option D → CM → Prop) → Prop} {xs : List α} {C : CM} {P : List D → CM → Prop} (hl : xs.length ≤ sizeLine) (hlen : ∀ done acc C, I done acc C → acc.length ≤ done.length) (h0 : I [] [] C)
    (step : ∀ done x rest acc C, xs = done ++ x :: rest → I done acc C → ∀ K : Option D → CM → Prop, (∀ y C', I (done ++ [x]) (acc ++ [y]) C' → K (some (f y)) C') → (∀ C', I (done ++ [x]) acc C' → K none C') → tn (g x) C K)
    (hend : ∀ acc C, I xs acc C → P (acc.map f) C) : compGo tn (xs.map g) [] C P := by
  have key : ∀ (rest done : List α) (acc : List β) (C : CM), xs = done ++ rest → I done acc C → compGo tn (rest.map g) (acc.map f) C P := by
    intro rest
    induction rest with
    | nil => intro done acc C e i; rw [List.append_nil] at e; subst e; exact hend acc C i
    | cons d rest ih =>
      intro done acc C e i
      have h1 := hlen done acc C i
      have h2 : xs.length = done.length + (rest.length + 1) := by rw [e, List.length_append, List.length_cons]
      refine step done d rest acc C e i _ (fun y C' j => ⟨by rw [List.length_map]; omega, ?_⟩) (fun C' j => ih (done ++ [d]) acc C' (by rw [e, List.append_assoc]; rfl) j)
      have := ih (done ++ [d]) (acc ++ [y]) C' (by rw [e, List.append_assoc]; rfl) j
      rw [List.map_append] at this
      exact this
  exact key xs [] [] C rfl h0
/-- a list made of a cell's numbers, one by one -/
theorem compC_map {a : Addr} {ns : List Int} {C : CM} (f : Int → D) {tn : D → CM → (Option D → CM → Prop) → Prop} {P : List D → CM → Prop} (hc : C a = some (.lst (ns.map .int))) (hl : ns.length ≤ sizeLine)
    (step : ∀ x ∈ ns, ∀ K : Option D → CM → Prop, K (some (f x)) C → tn (.int x) C K) (hend : P (ns.map f) C) : compGoC a ns tn ns [] C P := by
  have key : ∀ (l done : List Int), ns = done ++ l → compGoC a ns tn l (done.map f) C P := by
    intro l
    induction l with
    | nil => intro done e; rw [List.append_nil] at e; exact ⟨hc, by rw [← e]; exact hend⟩
    | cons x l ih =>
      intro done e
      refine ⟨hc, step x (by rw [e]; simp) _ ⟨?_, ?_⟩⟩
      · have h2 : ns.length = done.length + (l.length + 1) := by rw [e, List.length_append, List.length_cons]
        rw [List.length_map]; omega
      · have := ih (done ++ [x]) (by rw [e, List.append_assoc]; rfl)
        rw [List.map_append] at this
        exact this
  exact key ns [] rfl
/-- two ways that go on alike -/
theorem ite_join {c : Prop} {dc : Decidable c} {X : Prop} {α : Type} (Gd : α → CM → Prop) (Q : α → CM → Prop) {s : α} {C : CM} (h0 : Gd s C) (hX : (∀ s' C', Gd s' C' → Q s' C') → X) (h : ∀ s' C', Gd s' C' → Q s' C') : if c then X else Q s C := by
  split
  · exact hX h
  · exact h s C h0
/-- what stands behind a statement, folded -/
theorem cut_tail' {G : Ctx} {s : S} {ss : Ss} {A : AEnds} {ρ : Rho} {C : CM} (tl : ∀ N : Rho → CM → Prop, (∀ ρ' C', blk G ss A ρ' C' → N ρ' C') → denS G s { A with nx := N } ρ C) : blk G (.cons s ss) A ρ C := tl (blk G ss A) fun _ _ h => h
/-! ### cells set -/
theorem setC_same {C : CM} {a : Addr} {c : Cell} : setC C a c a = some c := if_pos rfl
theorem setC_ne {C : CM} {a b : Addr} {c : Cell} (h : b ≠ a) : setC C a c b = C b := if_neg h
theorem setC_set {C : CM} {a : Addr} {c c' : Cell} : setC (setC C a c) a c' = setC C a c' := by
  funext b; unfold setC; split <;> rfl
theorem fldAt_cons (k k' : String) (d : D) (r : List (String × D)) : fldAt ((k, d) :: r) k' = if k = k' then some d else fldAt r k' := by
  unfold fldAt
  rw [List.find?_cons]
  by_cases h : k = k' <;> simp [h]
theorem fldAt_nil (k : String) : fldAt [] k = none := rfl
theorem fldPut_nil (k : String) (d : D) : fldPut k d [] = [(k, d)] := rfl
theorem fldPut_cons (k k' : String) (d d' : D) (r : List (String × D)) : fldPut k d ((k', d') :: r) = if k' = k then (k', d) :: r else (k', d') :: fldPut k d r := rfl
theorem drop_fresh {f : Addr} {C : CM} (h : CM.fresh f C) : C.drop f = C := by
  funext a
  unfold CM.drop
  cases e : C a with
  | none => rfl
  | some c => exact if_pos (h a c e)
theorem back_drop {f : Addr} {C : CM} : CM.back f C (C.drop f) = C := by
  funext a
  unfold CM.back CM.drop
  cases e : C a with
  | none => rfl
  | some c =>
    by_cases n : c.noc f = true
    · simp [n]
    · simp [n]
theorem drop_at {f : Addr} {C : CM} {a : Addr} {c : Cell} (h : C a = some c) (n : c.noc f = true) : C.drop f a = some c := by
  unfold CM.drop; rw [h]; exact if_pos n
theorem keyOf_2 (i j : Int) : keyOf [.int i, .int j] = some [.inl i, .inl j] := rfl
/-- numbers speak of no def -/
theorem nocs_ints (f : Addr) : ∀ xs : List Int, D.nocs f (xs.map .int) = true
  | [] => rfl
  | x :: xs => by
    have := nocs_ints f xs
    show (true && D.nocs f (xs.map .int)) = true
    rw [this]; rfl
theorem nocs_map {α : Type} (f : Addr) (g : α → D) : ∀ xs : List α, (∀ x ∈ xs, (g x).noc f = true) → D.nocs f (xs.map g) = true
  | [], _ => rfl
  | x :: xs, h => by
    have a := nocs_map f g xs fun y hy => h y (List.mem_cons_of_mem _ hy)
    have b := h x List.mem_cons_self
    show (D.noc f (g x) && D.nocs f (xs.map g)) = true
    rw [a, b]; rfl
end M61

set_option Elab.async false
set_option linter.all false
set_option autoImplicit false
set_option maxRecDepth 100000
/-! P70: first least places of rows that are totally monotone (no program in sight). -/
namespace M61.LK
open PySem PySem.Spec PyProof.Rows L2
abbrev Rk := Nat → Nat → Int × Int
def plt (a b : Int × Int) : Bool := decide (a.1 < b.1 ∨ (a.1 = b.1 ∧ a.2 < b.2))
/-- in row r, c beats c0 -/
def bt (R : Rk) (r c0 c : Nat) : Bool := plt (R r c) (R r c0)
theorem bt_t {R : Rk} {r c0 c : Nat} : bt R r c0 c = true ↔ ((R r c).1 < (R r c0).1 ∨ ((R r c).1 = (R r c0).1 ∧ (R r c).2 < (R r c0).2)) := by
  unfold bt plt; rw [decide_eq_true_iff]
theorem bt_f {R : Rk} {r c0 c : Nat} : bt R r c0 c = false ↔ ¬ ((R r c).1 < (R r c0).1 ∨ ((R r c).1 = (R r c0).1 ∧ (R r c).2 < (R r c0).2)) := by
  unfold bt plt; rw [decide_eq_false_iff_not]
/-- totally monotone -/
def TM (R : Rk) (n m : Nat) : Prop := ∀ r r' c c', r < r' → r' < n → c < c' → c' < m → bt R r c c' = true → bt R r' c c' = true
/-- in row r, c is no worse than c' -/
def kle (R : Rk) (r c c' : Nat) : Prop := (R r c).1 < (R r c').1 ∨ ((R r c).1 = (R r c').1 ∧ ((R r c).2 < (R r c').2 ∨ ((R r c).2 = (R r c').2 ∧ c ≤ c')))
theorem kle_refl {R : Rk} {r c : Nat} : kle R r c c := .inr ⟨rfl, .inr ⟨rfl, Nat.le_refl _⟩⟩
theorem kle_trans {R : Rk} {r a b c : Nat} (h : kle R r a b) (k : kle R r b c) : kle R r a c := by
  unfold kle at *; omega
theorem kle_anti {R : Rk} {r a b : Nat} (h : kle R r a b) (k : kle R r b a) : a = b := by
  unfold kle at *; omega
theorem kle_beat {R : Rk} {r c c' : Nat} (h : bt R r c c' = true) : kle R r c' c := by
  rw [bt_t] at h; unfold kle; omega
theorem kle_not {R : Rk} {r c c' : Nat} (q : c ≤ c') (h : bt R r c c' = false) : kle R r c c' := by
  rw [bt_f] at h; unfold kle; omega
theorem not_kle {R : Rk} {r c c' : Nat} (q : c < c') (h : kle R r c c') : bt R r c c' = false := by
  rw [bt_f]; unfold kle at h; omega
theorem beat_kle {R : Rk} {r c c' : Nat} (q : c < c') (h : kle R r c' c) : bt R r c c' = true := by
  rw [bt_t]; unfold kle at h; omega
/-- the first least of a row's columns -/
def fb (R : Rk) (r : Nat) : Nat → List Nat → Nat
  | f, [] => f
  | f, c :: cs => fb R r (if bt R r f c = true then c else f) cs
def fbl (R : Rk) (r : Nat) : List Nat → Nat
  | [] => 0
  | c :: cs => fb R r c cs
abbrev Up (xs : List Nat) : Prop := xs.Pairwise (· < ·)
/-- c is it -/
def FB (R : Rk) (r : Nat) (cs : List Nat) (c : Nat) : Prop := c ∈ cs ∧ ∀ x ∈ cs, kle R r c x
theorem FB.uniq {R : Rk} {r : Nat} {cs : List Nat} {c d : Nat} (h : FB R r cs c) (k : FB R r cs d) : c = d := kle_anti (h.2 _ k.1) (k.2 _ h.1)
theorem fb_FB {R : Rk} {r : Nat} : ∀ (cs : List Nat) (f : Nat), (∀ x ∈ cs, f < x) → Up cs → FB R r (f :: cs) (fb R r f cs)
  | [], f, _, _ => ⟨List.mem_cons_self, fun x hx => by rw [List.mem_singleton.mp hx]; exact kle_refl⟩
  | c :: cs, f, h, u => by
    have u' := List.pairwise_cons.mp u
    have hfc := h c List.mem_cons_self
    show FB R r (f :: c :: cs) (fb R r (if bt R r f c = true then c else f) cs)
    cases hb : bt R r f c with
    | true =>
      have i := fb_FB (R := R) (r := r) cs c (fun x hx => u'.1 x hx) u'.2
      rw [if_pos rfl]
      refine ⟨List.mem_cons_of_mem _ i.1, fun x hx => ?_⟩
      rcases List.mem_cons.mp hx with e | hx
      · subst e; exact kle_trans (i.2 c List.mem_cons_self) (kle_beat hb)
      · exact i.2 x hx
    | false =>
      have i := fb_FB (R := R) (r := r) cs f (fun x hx => h x (List.mem_cons_of_mem _ hx)) u'.2
      rw [if_neg (by decide)]
      refine ⟨?_, fun x hx => ?_⟩
      · rcases List.mem_cons.mp i.1 with e | e
        · rw [e]; exact List.mem_cons_self
        · exact List.mem_cons_of_mem _ (List.mem_cons_of_mem _ e)
      · rcases List.mem_cons.mp hx with e | hx
        · subst e; exact i.2 _ List.mem_cons_self
        · rcases List.mem_cons.mp hx with e | hx
          · subst e; exact kle_trans (i.2 _ List.mem_cons_self) (kle_not (Nat.le_of_lt hfc) hb)
          · exact i.2 x (List.mem_cons_of_mem _ hx)
theorem fbl_FB {R : Rk} {r : Nat} {cs : List Nat} (u : Up cs) (h : cs ≠ []) : FB R r cs (fbl R r cs) := by
  cases cs with
  | nil => exact absurd rfl h
  | cons c cs => exact fb_FB cs c (List.pairwise_cons.mp u).1 (List.pairwise_cons.mp u).2
theorem fbl_eq {R : Rk} {r c : Nat} {cs : List Nat} (u : Up cs) (h : FB R r cs c) : fbl R r cs = c := (fbl_FB u (List.ne_nil_of_mem h.1)).uniq h
/-- first least places don't go back -/
theorem fbl_up {R : Rk} {n m : Nat} (tm : TM R n m) {r r' : Nat} {cs : List Nat} (u : Up cs) (hm : ∀ c ∈ cs, c < m) (h : cs ≠ []) (q : r ≤ r') (hr : r' < n) : fbl R r cs ≤ fbl R r' cs := by
  rcases Nat.eq_or_lt_of_le q with e | q
  · rw [e]; exact Nat.le_refl _
  · have a := fbl_FB (R := R) (r := r) u h
    have b := fbl_FB (R := R) (r := r') u h
    refine Nat.le_of_not_lt fun lt => ?_
    have h1 := beat_kle lt (a.2 _ b.1)
    have h2 := tm r r' _ _ q hr lt (hm _ a.1) h1
    have h3 := not_kle lt (b.2 _ a.1)
    rw [h2] at h3; exact absurd h3 (by decide)
/-! ### columns let go -/
structure Red (R : Rk) (rows done kept pd : List Nat) : Prop where
  sub : List.Sublist kept done
  len : kept.length ≤ rows.length
  nb : ∀ (t c c' r : Nat), kept[t]? = some c → kept[t + 1]? = some c' → rows[t]? = some r → bt R r c c' = false
  dom : ∀ r ∈ rows, ∀ d ∈ done, ∃ e, (e ∈ kept ∨ e ∈ pd) ∧ kle R r e d
theorem Red.start {R : Rk} {rows : List Nat} : Red R rows [] [] [] := ⟨List.Sublist.refl _, Nat.zero_le _, fun t c c' r h => by simp at h, fun r _ d h => by simp at h⟩
theorem Red.enter {R : Rk} {rows done kept : List Nat} {c : Nat} (h : Red R rows done kept []) : Red R rows done kept [c] := ⟨h.sub, h.len, h.nb, fun r hr d hd => by
  obtain ⟨e, he, k⟩ := h.dom r hr d hd
  rcases he with he | he
  · exact ⟨e, .inl he, k⟩
  · simp at he⟩
theorem up_get {xs : List Nat} (u : Up xs) {i j a b : Nat} (hi : xs[i]? = some a) (hj : xs[j]? = some b) (q : i < j) : a < b := by
  obtain ⟨h1, e1⟩ := List.getElem?_eq_some_iff.mp hi
  obtain ⟨h2, e2⟩ := List.getElem?_eq_some_iff.mp hj
  have := List.pairwise_iff_getElem.mp u i j h1 h2 q
  rw [e1, e2] at this; exact this
theorem up_le {xs : List Nat} (u : Up xs) {i j a b : Nat} (hi : xs[i]? = some a) (hj : xs[j]? = some b) (q : i ≤ j) : a ≤ b := by
  rcases Nat.eq_or_lt_of_le q with e | q
  · subst e; rw [hi] at hj; exact Nat.le_of_eq (Option.some.inj hj)
  · exact Nat.le_of_lt (up_get u hi hj q)
section
variable {R : Rk} {n m : Nat} {rows done kept : List Nat} {top c r : Nat}
theorem Red.pop (tm : TM R n m) (ur : Up rows) (hn : ∀ r ∈ rows, r < n) (ud : Up done) (hc : ∀ d ∈ done, d < c) (hm : c < m) (h : Red R rows done (kept ++ [top]) [c]) (hr : rows[kept.length]? = some r) (hb : bt R r top c = true) : Red R rows done kept [c] := by
  have htop : top ∈ done := h.sub.subset (List.mem_append_right _ List.mem_cons_self)
  have htc := hc top htop
  refine ⟨(List.sublist_append_left kept [top]).trans h.sub, by have := h.len; rw [List.length_append] at this; omega, fun t c1 c2 r1 h1 h2 h3 => ?_, fun r1 hr1 d hd => ?_⟩
  · refine h.nb t c1 c2 r1 ?_ ?_ h3
    · rw [List.getElem?_append_left (List.getElem?_eq_some_iff.mp h1).1]; exact h1
    · rw [List.getElem?_append_left (List.getElem?_eq_some_iff.mp h2).1]; exact h2
  · obtain ⟨e, he, k⟩ := h.dom r1 hr1 d hd
    rcases he with he | he
    · rcases List.mem_append.mp he with he | he
      · exact ⟨e, .inl he, k⟩
      · have ee := List.mem_singleton.mp he
        subst ee
        obtain ⟨i, hi⟩ := List.mem_iff_getElem?.mp hr1
        by_cases q : kept.length ≤ i
        · have le := up_le ur hr hi q
          refine ⟨c, .inr (List.mem_singleton.mpr rfl), kle_trans (kle_beat ?_) k⟩
          rcases Nat.eq_or_lt_of_le le with e2 | lt
          · rw [← e2]; exact hb
          · exact tm r r1 _ _ lt (hn _ hr1) htc hm hb
        · have hk : kept.length - 1 < kept.length := by omega
          have g1 : kept[kept.length - 1]? = some kept[kept.length - 1] := List.getElem?_eq_getElem hk
          have hr0 : kept.length - 1 < rows.length := by
            have := (List.getElem?_eq_some_iff.mp hr).1; omega
          have g0 : rows[kept.length - 1]? = some rows[kept.length - 1] := List.getElem?_eq_getElem hr0
          have nb := h.nb (kept.length - 1) kept[kept.length - 1] e rows[kept.length - 1] (by rw [List.getElem?_append_left hk]; exact g1) (by rw [show kept.length - 1 + 1 = kept.length by omega, List.getElem?_append_right (Nat.le_refl _), Nat.sub_self]; rfl) g0
          have le := up_le ur hi g0 (by omega)
          have lt : kept[kept.length - 1] < e := by
            have := List.pairwise_append.mp (ud.sublist h.sub)
            exact this.2.2 _ (List.getElem_mem hk) _ (List.mem_singleton.mpr rfl)
          have nb1 : bt R r1 kept[kept.length - 1] e = false := by
            rcases Nat.eq_or_lt_of_le le with e2 | l2
            · rw [e2]; exact nb
            · cases hh : bt R r1 kept[kept.length - 1] e with
              | false => rfl
              | true =>
                have := tm _ _ _ _ l2 (hn _ (List.getElem_mem hr0)) lt (by omega) hh
                rw [nb] at this; exact absurd this (by decide)
          exact ⟨_, .inl (List.getElem_mem hk), kle_trans (kle_not (Nat.le_of_lt lt) nb1) k⟩
    · exact ⟨e, .inr he, k⟩
theorem Red.push (h : Red R rows done kept [c]) (lt : kept.length < rows.length) (hb : ∀ top r, kept.getLast? = some top → rows[kept.length - 1]? = some r → bt R r top c = false) : Red R rows (done ++ [c]) (kept ++ [c]) [] := by
  refine ⟨h.sub.append (List.Sublist.refl _), by rw [List.length_append, List.length_singleton]; omega, fun t c1 c2 r1 h1 h2 h3 => ?_, fun r1 hr1 d hd => ?_⟩
  · have l2 := (List.getElem?_eq_some_iff.mp h2).1
    rw [List.length_append, List.length_singleton] at l2
    rw [List.getElem?_append_left (by omega)] at h1
    by_cases q : t + 1 < kept.length
    · rw [List.getElem?_append_left q] at h2
      exact h.nb t c1 c2 r1 h1 h2 h3
    · have e : t + 1 = kept.length := by omega
      rw [e, List.getElem?_append_right (Nat.le_refl _), Nat.sub_self] at h2
      have e2 : c = c2 := Option.some.inj h2
      subst e2
      refine hb c1 r1 ?_ ?_
      · rw [List.getLast?_eq_getElem?, ← e]; exact h1
      · rw [← e]; exact h3
  · rcases List.mem_append.mp hd with hd | hd
    · obtain ⟨e, he, k⟩ := h.dom r1 hr1 d hd
      rcases he with he | he
      · exact ⟨e, .inl (List.mem_append_left _ he), k⟩
      · exact ⟨e, .inl (List.mem_append_right _ he), k⟩
    · exact ⟨d, .inl (List.mem_append_right _ hd), kle_refl⟩
theorem Red.skip (tm : TM R n m) (ur : Up rows) (hn : ∀ r ∈ rows, r < n) (hc : ∀ d ∈ done, d < c) (hm : c < m) (h : Red R rows done kept [c]) (ne : rows ≠ []) (lt : ¬ kept.length < rows.length) (hb : ∀ top r, kept.getLast? = some top → rows[kept.length - 1]? = some r → bt R r top c = false) : Red R rows (done ++ [c]) kept [] := by
  have l0 : 0 < rows.length := List.length_pos_iff.mpr ne
  have l1 : kept.length = rows.length := by have := h.len; omega
  have hk : kept.length - 1 < kept.length := by omega
  have hr0 : kept.length - 1 < rows.length := by omega
  have g1 : kept.getLast? = some kept[kept.length - 1] := by rw [List.getLast?_eq_getElem?]; exact List.getElem?_eq_getElem hk
  have g0 : rows[kept.length - 1]? = some rows[kept.length - 1] := List.getElem?_eq_getElem hr0
  have hbb := hb _ _ g1 g0
  have htc := hc _ (h.sub.subset (List.getElem_mem hk))
  have best : ∀ r1 ∈ rows, kle R r1 kept[kept.length - 1] c := fun r1 hr1 => by
    obtain ⟨i, hi⟩ := List.mem_iff_getElem?.mp hr1
    have hi' := (List.getElem?_eq_some_iff.mp hi).1
    have le := up_le ur hi g0 (by omega)
    refine kle_not (Nat.le_of_lt htc) ?_
    rcases Nat.eq_or_lt_of_le le with e2 | l2
    · rw [e2]; exact hbb
    · cases hh : bt R r1 kept[kept.length - 1] c with
      | false => rfl
      | true =>
        have := tm _ _ _ _ l2 (hn _ (List.getElem_mem hr0)) htc hm hh
        rw [hbb] at this; exact absurd this (by decide)
  refine ⟨h.sub.trans (List.sublist_append_left _ _), h.len, h.nb, fun r1 hr1 d hd => ?_⟩
  rcases List.mem_append.mp hd with hd | hd
  · obtain ⟨e, he, k⟩ := h.dom r1 hr1 d hd
    rcases he with he | he
    · exact ⟨e, .inl he, k⟩
    · rw [List.mem_singleton.mp he] at k
      exact ⟨_, .inl (List.getElem_mem hk), kle_trans (best r1 hr1) k⟩
  · rw [List.mem_singleton.mp hd]
    exact ⟨_, .inl (List.getElem_mem hk), best r1 hr1⟩
theorem Red.ne {cols : List Nat} (h : Red R rows cols kept []) (hr : rows ≠ []) (hc : cols ≠ []) : kept ≠ [] := fun e => by
  subst e
  obtain ⟨e, he, _⟩ := h.dom _ (List.head_mem hr) _ (List.head_mem hc)
  rcases he with he | he <;> simp at he
theorem Red.fin {cols : List Nat} (h : Red R rows cols kept []) (u : Up cols) (hc : cols ≠ []) {r : Nat} (hr : r ∈ rows) : fbl R r kept = fbl R r cols := by
  have u2 := u.sublist h.sub
  have a := fbl_FB (R := R) (r := r) u hc
  refine fbl_eq u2 ⟨?_, fun x hx => a.2 x (h.sub.subset hx)⟩
  obtain ⟨e, he, k⟩ := h.dom r hr _ a.1
  rcases he with he | he
  · have : e = fbl R r cols := kle_anti k (a.2 _ (h.sub.subset he))
    rw [← this]; exact he
  · simp at he
end
/-! ### in between -/
/-- how many columns lie below -/
def below (cs : List Nat) (x : Nat) : Nat := (cs.filter fun c => decide (c < x)).length
def mid (cs : List Nat) (lo hi : Nat) : List Nat := cs.filter fun c => decide (lo ≤ c ∧ c ≤ hi)
theorem below_le (cs : List Nat) (x : Nat) : below cs x ≤ cs.length := List.length_filter_le _ _
theorem mid_up {cs : List Nat} {lo hi : Nat} (u : Up cs) : Up (mid cs lo hi) := u.filter _
theorem mid_fbl {R : Rk} {r : Nat} {cs : List Nat} {lo hi : Nat} (u : Up cs) (h : cs ≠ []) (h1 : lo ≤ fbl R r cs) (h2 : fbl R r cs ≤ hi) : mid cs lo hi ≠ [] ∧ fbl R r (mid cs lo hi) = fbl R r cs := by
  have a := fbl_FB (R := R) (r := r) u h
  have hm : fbl R r cs ∈ mid cs lo hi := List.mem_filter.mpr ⟨a.1, decide_eq_true ⟨h1, h2⟩⟩
  exact ⟨List.ne_nil_of_mem hm, fbl_eq (mid_up u) ⟨hm, fun x hx => a.2 x (List.mem_filter.mp hx).1⟩⟩
theorem mid_len : ∀ {cs : List Nat} {lo hi : Nat}, Up cs → lo ≤ hi → (mid cs lo hi).length + below cs lo ≤ below cs hi + 1
  | [], lo, hi, _, _ => by show 0 + 0 ≤ 0 + 1; omega
  | c :: cs, lo, hi, u, q => by
    have u' := List.pairwise_cons.mp u
    have i := mid_len (cs := cs) (lo := lo) (hi := hi) u'.2 q
    by_cases h1 : c < lo
    · have e1 : mid (c :: cs) lo hi = mid cs lo hi := List.filter_cons_of_neg (by rw [decide_eq_true_iff]; omega)
      have e2 : below (c :: cs) lo = below cs lo + 1 := by unfold below; rw [List.filter_cons_of_pos (by rw [decide_eq_true_iff]; omega)]; rfl
      have e3 : below (c :: cs) hi = below cs hi + 1 := by unfold below; rw [List.filter_cons_of_pos (by rw [decide_eq_true_iff]; omega)]; rfl
      rw [e1, e2, e3]; omega
    · have e2 : below (c :: cs) lo = below cs lo := by unfold below; rw [List.filter_cons_of_neg (by rw [decide_eq_true_iff]; omega)]
      by_cases h2 : c < hi
      · have e1 : mid (c :: cs) lo hi = c :: mid cs lo hi := List.filter_cons_of_pos (by rw [decide_eq_true_iff]; omega)
        have e3 : below (c :: cs) hi = below cs hi + 1 := by unfold below; rw [List.filter_cons_of_pos (by rw [decide_eq_true_iff]; omega)]; rfl
        rw [e1, e2, e3, List.length_cons]; omega
      · have e3 : below (c :: cs) hi = below cs hi := by unfold below; rw [List.filter_cons_of_neg (by rw [decide_eq_true_iff]; omega)]
        have z1 : ∀ x : Nat, x ≤ c → below cs x = 0 := fun x hx => by
          unfold below
          rw [List.filter_eq_nil_iff.mpr fun y hy => by rw [decide_eq_true_iff]; have := u'.1 y hy; omega]; rfl
        have z3 : mid cs lo hi = [] := List.filter_eq_nil_iff.mpr fun y hy => by rw [decide_eq_true_iff]; have := u'.1 y hy; omega
        rw [e2, e3, z1 lo (by omega), z1 hi (by omega)]
        have : (mid (c :: cs) lo hi).length ≤ 1 := by
          unfold mid
          rw [List.filter_cons]
          split
          · rw [List.length_cons]; show (mid cs lo hi).length + 1 ≤ 1; rw [z3]; exact Nat.le_refl _
          · show (mid cs lo hi).length ≤ 1; rw [z3]; exact Nat.zero_le _
        omega
/-- every second one -/
def odds : List Nat → List Nat
  | _ :: y :: r => y :: odds r
  | _ => []
theorem odds_len : ∀ xs : List Nat, (odds xs).length = xs.length / 2
  | [] => rfl
  | [x] => by show 0 = 1 / 2; rfl
  | _ :: y :: r => by show (odds r).length + 1 = (r.length + 1 + 1) / 2; rw [odds_len r]; omega
theorem odds_at : ∀ (xs : List Nat) (i : Nat), (odds xs)[i]? = xs[2 * i + 1]?
  | [], i => by show ([] : List Nat)[i]? = ([] : List Nat)[_]?; simp
  | [x], i => by show ([] : List Nat)[i]? = [x][2 * i + 1]?; simp
  | _ :: y :: r, 0 => rfl
  | _ :: y :: r, i + 1 => by
    show (odds r)[i]? = r[2 * i + 1]?
    exact odds_at r i
theorem odds_sub : ∀ xs : List Nat, List.Sublist (odds xs) xs
  | [] => List.Sublist.refl _
  | [_] => List.nil_sublist _
  | x :: y :: r => .cons _ (.cons₂ _ (odds_sub r))
theorem oddD_map : ∀ (f : Nat → D) (xs : List Nat), oddD (xs.map f) = (odds xs).map f
  | _, [] => rfl
  | _, [_] => rfl
  | f, _ :: y :: r => by show f y :: oddD (r.map f) = f y :: (odds r).map f; rw [oddD_map f r]
theorem lexLt_2 (a b c d : Int) : HT.lexLt [a, b] [c, d] = plt (a, b) (c, d) := by
  unfold plt
  rw [HT.lexLt_cons, HT.lexLt_cons, HT.lexLt_nil_nil]
  by_cases h : a = c
  · subst h
    rw [if_pos rfl]
    by_cases h3 : b = d
    · subst h3; rw [if_pos rfl]; exact (decide_eq_false (by omega)).symm
    · rw [if_neg h3]; congr 1; exact propext ⟨fun h => .inr ⟨rfl, h⟩, fun h => h.elim (fun q => absurd q (Int.lt_irrefl _)) fun q => q.2⟩
  · rw [if_neg h]; congr 1; exact propext ⟨fun h => .inl h, fun q => q.elim id fun q => absurd q.1 h⟩
end M61.LK

set_option Elab.async false
set_option linter.all false
set_option autoImplicit false
set_option maxRecDepth 100000
/-! P71: lookers: what a look tells, ranks, who is beaten. -/
namespace M61.LK
open PySem PySem.Spec PyProof.Rows L2
local macro_rules
  | `(tactic| simp_arith! [$ls,*] $[$loc:location]?) => `(tactic| try simp only [wipeR_cons, wipeR_nil, eq_self, denE, denT, denEs, denO, denC, denI, bindT_nm, bindT_tp, bindT_tl, bindTs_nil, bindTs_cons, varD_0, varD_s, varM_own0, varM_dat0, varM_s, varO_0, varO_s, varL_own0, varL_ref0, varL_s, sz, cp1, cp2, cp3, cp4, cp5, cp6, cp7, cp8, cp9, cp10, cp11, cp12, cp15, cp18, add_i, add_t, add_l, add_s, add_b, sub_b, sub_i, mul_i, mul_t, mul_sgn, mul_l, fdiv_i, mod_i, pow_i, shl_i, eq_r, ne_r, inn_t, nin_t, inn_l, nin_l, lt_r, lt_tt, le_r, gt_r, ge_r, is_n, isn_n, is_b, isn_b, isNon_n, isNon_i, isNon_t, isNon_l, isNon_b, isNon_s, tru_n, tru_b, tru_i, tru_t, tru_l, ix_t, ix_l, ix_c, ix_r, cellAt_l, cellL_l, lstD_l, lstD_r, sqD_t, sqD_l, sl_t, sl_l, sl_c, sl_r, rev_t, rev_l, len_t, len_l, len_c, len_r, tup_t, tup_l, tup_r, sum_t, sum_l, sum_r, min_t, min_l, max_t, max_l, min_2, max_2, min_3, repr_r, str_ri, abs_i, int_i, int_b, all_l, any_l, ty_bb, ty_bi, ty_bn, ty_bt, ty_ss, ty_sn, ty_si, ty_sb, ty_ii, ty_ib, ty_in, ty_it, ty_tt, ty_tn, ty_ti, ty_tb, ty_ll, ty_lt, ty_is, ty_il, ty_bs, ty_blst, ty_st, ty_sl, ty_ts, ty_tl, ty_ln, ty_li, ty_lb, ty_ls, intsOf_map, boolsOf_map, pair_Cmp, int_Cmp, bl_Cmp, non_Cmp, ints_Cmp, intst_Cmp, eqv_int, eqv_bl, eqv_ints, eqv_intst, List.map_cons, List.map_nil, List.replicate_succ, List.replicate_zero, List.cons_append, List.nil_append, List.set_cons_zero, List.set_cons_succ, List.length_cons, List.length_nil, List.getElem?_cons_zero, List.getElem?_cons_succ, List.eraseIdx_cons_zero, Nat.reduceSub, Nat.reduceAdd, Nat.reduceLT, Nat.reduceLeDiff, Nat.reducePow, Nat.reduceEqDiff, Nat.reduceMul, Int.reducePow, Int.reduceToNat, Int.reduceMul, Int.reduceAdd, Int.reduceSub, Int.reduceNeg, Int.reduceLT, Int.reduceLE, Int.reduceEq, Int.reduceBEq, Int.reduceBNe, zero_add', not_true_eq_false, not_false_eq_true, Bool.true_eq_false, false_and, and_false, true_and, and_true, exists_eq_left', exists_and_left, Option.some.injEq, Cell.lst.injEq, Cell.dct.injEq, Cell.dtp.injEq, Cell.ins.injEq, if_pos_true, reduceIte, Bool.false_eq_true, decide_true, decide_false, Bool.not_true, Bool.not_false, Bool.not_eq_true', Bool.and_true, Bool.true_and, decide_eq_true_eq, decide_eq_false_iff_not, ite_self, List.isEmpty_cons, List.isEmpty_nil, ss_nil', ss_cons', s_set', s_own', s_setF', s_unp', s_par2', par2K_e, s_par3', par3K_e, s_app', s_ext', extK_e, s_exp', s_csub', csubK_e, s_dset', dsetK_e, s_capp', cappK_e, s_aug', augK_a, augK_s, s_oset', osetK_e, s_ife', s_for', s_forc', forcK_e, s_whl', s_ret', s_ret0', s_pass', s_brk', s_cnt', l_comp', l_compc', compcK_e, l_lit', l_cat', l_cato', l_rvd', l_lrv', l_ls2', l_list', l_srt', srtK_e, l_srr', srrK_e, l_lrg1', l_lrg2', lrgK_e, l_rep', repK_e, s_fset', fsetK_e, s_dpt', dptK_e, s_ndef', s_mkr', s_mkc', l_odd', oddK_e, setM_nil, setM_cons, Int.toNat_natCast, List.length_map, exists_eq_left, $ls,*] $[$loc]?)
local macro_rules
  | `(tactic| simp_all_arith! [$ls,*]) => `(tactic| ((try simp only [wipeR_cons, wipeR_nil, eq_self, denE, denT, denEs, denO, denC, denI, bindT_nm, bindT_tp, bindT_tl, bindTs_nil, bindTs_cons, varD_0, varD_s, varM_own0, varM_dat0, varM_s, varO_0, varO_s, varL_own0, varL_ref0, varL_s, sz, cp1, cp2, cp3, cp4, cp5, cp6, cp7, cp8, cp9, cp10, cp11, cp12, cp15, cp18, add_i, add_t, add_l, add_s, add_b, sub_b, sub_i, mul_i, mul_t, mul_sgn, mul_l, fdiv_i, mod_i, pow_i, shl_i, eq_r, ne_r, inn_t, nin_t, inn_l, nin_l, lt_r, lt_tt, le_r, gt_r, ge_r, is_n, isn_n, is_b, isn_b, isNon_n, isNon_i, isNon_t, isNon_l, isNon_b, isNon_s, tru_n, tru_b, tru_i, tru_t, tru_l, ix_t, ix_l, ix_c, ix_r, cellAt_l, cellL_l, lstD_l, lstD_r, sqD_t, sqD_l, sl_t, sl_l, sl_c, sl_r, rev_t, rev_l, len_t, len_l, len_c, len_r, tup_t, tup_l, tup_r, sum_t, sum_l, sum_r, min_t, min_l, max_t, max_l, min_2, max_2, min_3, repr_r, str_ri, abs_i, int_i, int_b, all_l, any_l, ty_bb, ty_bi, ty_bn, ty_bt, ty_ss, ty_sn, ty_si, ty_sb, ty_ii, ty_ib, ty_in, ty_it, ty_tt, ty_tn, ty_ti, ty_tb, ty_ll, ty_lt, ty_is, ty_il, ty_bs, ty_blst, ty_st, ty_sl, ty_ts, ty_tl, ty_ln, ty_li, ty_lb, ty_ls, intsOf_map, boolsOf_map, pair_Cmp, int_Cmp, bl_Cmp, non_Cmp, ints_Cmp, intst_Cmp, eqv_int, eqv_bl, eqv_ints, eqv_intst, List.map_cons, List.map_nil, List.replicate_succ, List.replicate_zero, List.cons_append, List.nil_append, List.set_cons_zero, List.set_cons_succ, List.length_cons, List.length_nil, List.getElem?_cons_zero, List.getElem?_cons_succ, List.eraseIdx_cons_zero, Nat.reduceSub, Nat.reduceAdd, Nat.reduceLT, Nat.reduceLeDiff, Nat.reducePow, Nat.reduceEqDiff, Nat.reduceMul, Int.reducePow, Int.reduceToNat, Int.reduceMul, Int.reduceAdd, Int.reduceSub, Int.reduceNeg, Int.reduceLT, Int.reduceLE, Int.reduceEq, Int.reduceBEq, Int.reduceBNe, zero_add', not_true_eq_false, not_false_eq_true, Bool.true_eq_false, false_and, and_false, true_and, and_true, exists_eq_left', exists_and_left, Option.some.injEq, Cell.lst.injEq, Cell.dct.injEq, Cell.dtp.injEq, Cell.ins.injEq, if_pos_true, reduceIte, Bool.false_eq_true, decide_true, decide_false, Bool.not_true, Bool.not_false, Bool.not_eq_true', Bool.and_true, Bool.true_and, decide_eq_true_eq, decide_eq_false_iff_not, ite_self, List.isEmpty_cons, List.isEmpty_nil, ss_nil', ss_cons', s_set', s_own', s_setF', s_unp', s_par2', par2K_e, s_par3', par3K_e, s_app', s_ext', extK_e, s_exp', s_csub', csubK_e, s_dset', dsetK_e, s_capp', cappK_e, s_aug', augK_a, augK_s, s_oset', osetK_e, s_ife', s_for', s_forc', forcK_e, s_whl', s_ret', s_ret0', s_pass', s_brk', s_cnt', l_comp', l_compc', compcK_e, l_lit', l_cat', l_cato', l_rvd', l_lrv', l_ls2', l_list', l_srt', srtK_e, l_srr', srrK_e, l_lrg1', l_lrg2', lrgK_e, l_rep', repK_e, s_fset', fsetK_e, s_dpt', dptK_e, s_ndef', s_mkr', s_mkc', l_odd', oddK_e, setM_nil, setM_cons, Int.toNat_natCast, List.length_map, exists_eq_left, $ls,*]); (repeat ((with_reducible (first | refine blk_of ?_ | refine turn_of ?_ | refine tst_of ?_)); (try simp only [wipeR_cons, wipeR_nil, eq_self, denE, denT, denEs, denO, denC, denI, bindT_nm, bindT_tp, bindT_tl, bindTs_nil, bindTs_cons, varD_0, varD_s, varM_own0, varM_dat0, varM_s, varO_0, varO_s, varL_own0, varL_ref0, varL_s, sz, cp1, cp2, cp3, cp4, cp5, cp6, cp7, cp8, cp9, cp10, cp11, cp12, cp15, cp18, add_i, add_t, add_l, add_s, add_b, sub_b, sub_i, mul_i, mul_t, mul_sgn, mul_l, fdiv_i, mod_i, pow_i, shl_i, eq_r, ne_r, inn_t, nin_t, inn_l, nin_l, lt_r, lt_tt, le_r, gt_r, ge_r, is_n, isn_n, is_b, isn_b, isNon_n, isNon_i, isNon_t, isNon_l, isNon_b, isNon_s, tru_n, tru_b, tru_i, tru_t, tru_l, ix_t, ix_l, ix_c, ix_r, cellAt_l, cellL_l, lstD_l, lstD_r, sqD_t, sqD_l, sl_t, sl_l, sl_c, sl_r, rev_t, rev_l, len_t, len_l, len_c, len_r, tup_t, tup_l, tup_r, sum_t, sum_l, sum_r, min_t, min_l, max_t, max_l, min_2, max_2, min_3, repr_r, str_ri, abs_i, int_i, int_b, all_l, any_l, ty_bb, ty_bi, ty_bn, ty_bt, ty_ss, ty_sn, ty_si, ty_sb, ty_ii, ty_ib, ty_in, ty_it, ty_tt, ty_tn, ty_ti, ty_tb, ty_ll, ty_lt, ty_is, ty_il, ty_bs, ty_blst, ty_st, ty_sl, ty_ts, ty_tl, ty_ln, ty_li, ty_lb, ty_ls, intsOf_map, boolsOf_map, pair_Cmp, int_Cmp, bl_Cmp, non_Cmp, ints_Cmp, intst_Cmp, eqv_int, eqv_bl, eqv_ints, eqv_intst, List.map_cons, List.map_nil, List.replicate_succ, List.replicate_zero, List.cons_append, List.nil_append, List.set_cons_zero, List.set_cons_succ, List.length_cons, List.length_nil, List.getElem?_cons_zero, List.getElem?_cons_succ, List.eraseIdx_cons_zero, Nat.reduceSub, Nat.reduceAdd, Nat.reduceLT, Nat.reduceLeDiff, Nat.reducePow, Nat.reduceEqDiff, Nat.reduceMul, Int.reducePow, Int.reduceToNat, Int.reduceMul, Int.reduceAdd, Int.reduceSub, Int.reduceNeg, Int.reduceLT, Int.reduceLE, Int.reduceEq, Int.reduceBEq, Int.reduceBNe, zero_add', not_true_eq_false, not_false_eq_true, Bool.true_eq_false, false_and, and_false, true_and, and_true, exists_eq_left', exists_and_left, Option.some.injEq, Cell.lst.injEq, Cell.dct.injEq, Cell.dtp.injEq, Cell.ins.injEq, if_pos_true, reduceIte, Bool.false_eq_true, decide_true, decide_false, Bool.not_true, Bool.not_false, Bool.not_eq_true', Bool.and_true, Bool.true_and, decide_eq_true_eq, decide_eq_false_iff_not, ite_self, List.isEmpty_cons, List.isEmpty_nil, ss_nil', ss_cons', s_set', s_own', s_setF', s_unp', s_par2', par2K_e, s_par3', par3K_e, s_app', s_ext', extK_e, s_exp', s_csub', csubK_e, s_dset', dsetK_e, s_capp', cappK_e, s_aug', augK_a, augK_s, s_oset', osetK_e, s_ife', s_for', s_forc', forcK_e, s_whl', s_ret', s_ret0', s_pass', s_brk', s_cnt', l_comp', l_compc', compcK_e, l_lit', l_cat', l_cato', l_rvd', l_lrv', l_ls2', l_list', l_srt', srtK_e, l_srr', srrK_e, l_lrg1', l_lrg2', lrgK_e, l_rep', repK_e, s_fset', fsetK_e, s_dpt', dptK_e, s_ndef', s_mkr', s_mkc', l_odd', oddK_e, setM_nil, setM_cons, Int.toNat_natCast, List.length_map, exists_eq_left, $ls,*])))))
def iLooker_number_at : Def := ⟨3, 4,
  (.cons (.set 3 (.fld "Looker" "look" (.var 0)))
  (.cons (.ife (.dnin (.cons (.var 1) (.cons (.var 2) .nil)) (.fld "Looker" "seen" (.var 0))) (.cons (.dpt (.fld "Looker" "seen" (.var 0)) (.cons (.var 1) (.cons (.var 2) .nil)) (.callv 3 (.cons (.var 1) (.cons (.var 2) .nil))))
  .nil) .nil)
  (.cons (.ret (.dgt (.fld "Looker" "seen" (.var 0)) (.cons (.var 1) (.cons (.var 2) .nil))))
  .nil)))⟩
def iLooker_rank : Def := ⟨3, 5,
  (.cons (.ife (.val (.fld "Looker" "is_about" (.var 0))) (.cons (.set 1 (.bin .sub (.bin .sub (.blt .len (.cons (.fld "Looker" "stretches" (.var 0)) .nil)) (.int 1)) (.var 1)))
  (.cons (.set 2 (.bin .sub (.bin .sub (.fld "Looker" "columns" (.var 0)) (.int 1)) (.var 2)))
  .nil)) .nil)
  (.cons (.unp (.tp (.cons (.nm 3) (.cons (.nm 4) .nil))) (.ix (.fld "Looker" "stretches" (.var 0)) (.var 1)))
  (.cons (.ife (.chn .le .le (.var 3) (.var 2) (.var 4)) (.cons (.ret (.tup (.cons (.int 0) (.cons (.meth "Looker" "number_at" (.var 0) (.cons (.var 1) (.cons (.var 2) .nil))) .nil))))
  .nil) .nil)
  (.cons (.ret (.tup (.cons (.int 1) (.cons (.blt .max2 (.cons (.bin .sub (.var 3) (.var 2)) (.cons (.bin .sub (.var 2) (.var 4)) .nil))) .nil))))
  .nil))))⟩
def iLooker_is_beaten : Def := ⟨4, 4,
  (.cons (.ret (.cmp .lt (.meth "Looker" "rank" (.var 0) (.cons (.var 1) (.cons (.var 3) .nil))) (.meth "Looker" "rank" (.var 0) (.cons (.var 1) (.cons (.var 2) .nil)))))
  .nil)⟩
/-- what is looked at: a look, the stretches of n rows among m columns -/
structure Lk where
  look : D
  n : Nat
  m : Nat
  lo : Nat → Nat
  hi : Nat → Nat
  ab : Bool
  fv : Nat → Nat → Int
  Z : Addr → Prop
  W : List (Nat × Nat) → CM → Prop
def strD (n : Nat) (lo hi : Nat → Nat) : D := .tup ((List.range n).map fun r => .tup [.int (lo r : Nat), .int (hi r : Nat)])
def kvOf (fv : Nat → Nat → Int) (as : List (Nat × Nat)) : List (List L2.Key × D) := as.map fun p => ([Sum.inl ((p.1 : Nat) : Int), Sum.inl ((p.2 : Nat) : Int)], D.int (fv p.1 p.2))
def Lk.flds (L : Lk) (s : Addr) : List (String × D) := [("look", L.look), ("stretches", strD L.n L.lo L.hi), ("is_about", .bl L.ab), ("columns", .int (L.m : Nat)), ("seen", .ref s)]
def Lk.S (L : Lk) (r c : Nat) : Prop := r < L.n ∧ L.lo r ≤ c ∧ c ≤ L.hi r
def Lk.rk0 (L : Lk) : Rk := fun r c => if L.lo r ≤ c ∧ c ≤ L.hi r then (0, L.fv r c) else (1, if ((c : Nat) : Int) - (L.hi r : Nat) > ((L.lo r : Nat) : Int) - (c : Nat) then ((c : Nat) : Int) - (L.hi r : Nat) else ((L.lo r : Nat) : Int) - (c : Nat))
def Lk.R (L : Lk) : Rk := fun r c => if L.ab = true then L.rk0 (L.n - 1 - r) (L.m - 1 - c) else L.rk0 r c
structure Lk.Ok (L : Lk) (tb : List (String × Def)) (k : Nat) : Prop where
  isc : ∃ mk f caps, L.look = .clo mk f caps
  hn : 1 ≤ L.n
  hn2 : L.n ≤ 100000
  hm : L.hi (L.n - 1) + 1 = L.m
  hm2 : L.m ≤ 100000
  loc : ∀ as C C', L.W as C → (∀ b, L.Z b → C' b = C b) → L.W as C'
  live : ∀ as C b, L.W as C → L.Z b → C b ≠ none
  run : ∀ mk f caps, L.look = .clo mk f caps → ∀ N, k ≤ N → ∀ r c as C, L.S r c → L.W as C → (r, c) ∉ as → as.length + 1 < sizeLine → ∀ (P : D → CM → Prop) (ex : ExP), (∀ C2, L.W (as ++ [(r, c)]) (CM.back f C C2) → (∀ b, ¬ L.Z b → CM.back f C C2 b = C b) → P (.int (L.fv r c)) C2) →
    D.nocs f caps = true ∧ Gm tb N (cloKey mk) (.int (r : Nat) :: .int (c : Nat) :: caps) (C.drop f) P ex
/-- a looker at a, what it saw at s -/
structure Lk.St (L : Lk) (a s : Addr) (as : List (Nat × Nat)) (C : CM) : Prop where
  ha : C a = some (.ins "Looker" (L.flds s))
  hs : C s = some (.dtp (kvOf L.fv as))
  w : L.W as C
  za : ¬ L.Z a
  zs : ¬ L.Z s
  ne : a ≠ s
  nd : as.Nodup
  inS : ∀ p ∈ as, L.S p.1 p.2
/-- behind k more looks -/
structure Lk.Af (L : Lk) (s : Addr) (k : Nat) (as : List (Nat × Nat)) (C : CM) (as' : List (Nat × Nat)) (C' : CM) : Prop where
  len : as'.length ≤ as.length + k
  old : ∀ b, b ≠ s → ¬ L.Z b → C' b = C b
theorem Lk.Af.refl {L : Lk} {s : Addr} {k : Nat} {as : List (Nat × Nat)} {C : CM} : L.Af s k as C as C := ⟨by omega, fun _ _ _ => rfl⟩
theorem Lk.Af.trans {L : Lk} {s : Addr} {k j i : Nat} {as as' as'' : List (Nat × Nat)} {C C' C'' : CM} (h : L.Af s k as C as' C') (q : L.Af s j as' C' as'' C'') (e : k + j ≤ i) : L.Af s i as C as'' C'' := ⟨by have := h.len; have := q.len; omega, fun b h1 h2 => (q.old b h1 h2).trans (h.old b h1 h2)⟩
theorem fl_look {L : Lk} {s : Addr} : fldAt (L.flds s) "look" = some L.look := rfl
theorem fl_str {L : Lk} {s : Addr} : fldAt (L.flds s) "stretches" = some (strD L.n L.lo L.hi) := rfl
theorem fl_ab {L : Lk} {s : Addr} : fldAt (L.flds s) "is_about" = some (.bl L.ab) := rfl
theorem fl_col {L : Lk} {s : Addr} : fldAt (L.flds s) "columns" = some (.int (L.m : Nat)) := rfl
theorem fl_seen {L : Lk} {s : Addr} : fldAt (L.flds s) "seen" = some (.ref s) := rfl
theorem fl_m {L : Lk} {s : Addr} : fldAt (L.flds s) "number_at" = none ∧ fldAt (L.flds s) "rank" = none ∧ fldAt (L.flds s) "is_beaten" = none := ⟨rfl, rfl, rfl⟩
theorem dtp_in {fv : Nat → Nat → Int} {r c : Nat} : ∀ {as : List (Nat × Nat)}, (r, c) ∈ as → dtpAt (kvOf fv as) [Sum.inl (r : Int), Sum.inl (c : Int)] = some (.int (fv r c))
  | p :: as, h => by
    obtain ⟨x, y⟩ := p
    unfold dtpAt kvOf
    rw [List.map_cons, List.find?_cons]
    by_cases e : x = r ∧ y = c
    · obtain ⟨e1, e2⟩ := e
      subst e1 e2
      rw [show decide (([Sum.inl (((x, y) : Nat × Nat).1 : Int), Sum.inl (((x, y) : Nat × Nat).2 : Int)] : List L2.Key) = [Sum.inl (x : Int), Sum.inl (y : Int)]) = true from decide_eq_true rfl]; rfl
    · rw [show decide (([Sum.inl (((x, y) : Nat × Nat).1 : Int), Sum.inl (((x, y) : Nat × Nat).2 : Int)] : List L2.Key) = [Sum.inl (r : Int), Sum.inl (c : Int)]) = false from decide_eq_false fun q => e (by
        injection q with q1 q2; injection q2 with q2 _; injection q1 with q1; injection q2 with q2
        have q1 : (x : Int) = (r : Int) := q1
        have q2 : (y : Int) = (c : Int) := q2
        exact ⟨by omega, by omega⟩)]
      refine dtp_in ?_
      rcases List.mem_cons.mp h with h | h
      · injection h with h1 h2; exact absurd ⟨h1.symm, h2.symm⟩ e
      · exact h
theorem dtp_out {fv : Nat → Nat → Int} {r c : Nat} : ∀ {as : List (Nat × Nat)}, (r, c) ∉ as → dtpAt (kvOf fv as) [Sum.inl (r : Int), Sum.inl (c : Int)] = none
  | [], _ => rfl
  | p :: as, h => by
    obtain ⟨x, y⟩ := p
    unfold dtpAt kvOf
    rw [List.map_cons, List.find?_cons]
    rw [show decide (([Sum.inl (((x, y) : Nat × Nat).1 : Int), Sum.inl (((x, y) : Nat × Nat).2 : Int)] : List L2.Key) = [Sum.inl (r : Int), Sum.inl (c : Int)]) = false from decide_eq_false fun q => h (by
        injection q with q1 q2; injection q2 with q2 _; injection q1 with q1; injection q2 with q2
        have q1 : (x : Int) = (r : Int) := q1
        have q2 : (y : Int) = (c : Int) := q2
        have e1 : x = r := by omega
        have e2 : y = c := by omega
        rw [e1, e2]; exact List.mem_cons_self)]
    exact dtp_out fun q => h (List.mem_cons_of_mem _ q)
theorem dtp_put {fv : Nat → Nat → Int} {r c : Nat} {as : List (Nat × Nat)} (h : (r, c) ∉ as) : dtpPut (kvOf fv as) [Sum.inl (r : Int), Sum.inl (c : Int)] (.int (fv r c)) = kvOf fv (as ++ [(r, c)]) := by
  unfold dtpPut
  rw [if_neg]
  · unfold kvOf; rw [List.map_append]; rfl
  · intro q
    have := dtp_out (fv := fv) h
    unfold dtpAt at this
    obtain ⟨x, hx, e⟩ := List.any_eq_true.mp q
    cases hf : (kvOf fv as).find? (fun kv => decide (kv.1 = [Sum.inl (r : Int), Sum.inl (c : Int)])) with
    | none => have := List.find?_eq_none.mp hf x hx; exact this e
    | some y => rw [hf] at this; cases this
theorem kv_len {fv : Nat → Nat → Int} {as : List (Nat × Nat)} : (kvOf fv as).length = as.length := List.length_map _
theorem nocs_2 {f : Addr} {i j : Int} : D.nocs f [.int i, .int j] = true := rfl
theorem str_at {n r : Nat} {lo hi : Nat → Nat} (h : r < n) : atI ((List.range n).map fun r => D.tup [.int (lo r : Nat), .int (hi r : Nat)]) (r : Int) = some (.tup [.int (lo r : Nat), .int (hi r : Nat)]) := by
  rw [atI_map, atI_nat (List.getElem?_range h)]; rfl
section
variable {L : Lk} {tb : List (String × Def)} {k : Nat}
def Lk.NumR (L : Lk) (ds : List D) (C : CM) (P : D → CM → Prop) : Prop := ∃ (a s : Addr) (r c : Nat) (as : List (Nat × Nat)), ds = [.ref a, .int (r : Nat), .int (c : Nat)] ∧ L.St a s as C ∧ L.S r c ∧ as.length + 1 < sizeLine ∧
  ∀ as' C', L.St a s as' C' → L.Af s 1 as C as' C' → P (.int (L.fv r c)) C'
theorem sp_num (ok : L.Ok tb k) (h : tb.lookup "Looker.number_at" = some iLooker_number_at) : Sp tb "Looker.number_at" (k + 1) L.NumR :=
  sp_mk h fun n hn ds C P ex ⟨a, s, r, c, as, e, st, hS, hl, kk⟩ => by
    subst e
    obtain ⟨mk, f, caps, el⟩ := ok.isc
    refine ⟨rfl, ?_⟩
    have ha := st.ha
    have hs := st.hs
    by_cases hm : (r, c) ∈ as
    · simp_all_arith! [iLooker_number_at, ha, hs, fl_look, fl_seen, keyOf_2, dtp_in hm, Option.isSome_some]
      exact ⟨C, sub_refl _, kk as C st .refl⟩
    · simp_all_arith! [iLooker_number_at, ha, hs, fl_look, fl_seen, keyOf_2, dtp_out hm, Option.isSome_none, el, nocs_2]
      refine ok.run mk f caps el n hn r c as C hS st.w hm hl _ _ fun C2 w o => ?_
      generalize hC1 : CM.back f C C2 = C1 at w o ⊢
      have ha1 : C1 a = some (.ins "Looker" (L.flds s)) := (o a st.za).trans ha
      have hs1 : C1 s = some (.dtp (kvOf L.fv as)) := (o s st.zs).trans hs
      have st' : L.St a s (as ++ [(r, c)]) (setC C1 s (.dtp (kvOf L.fv (as ++ [(r, c)])))) := ⟨by rw [setC_ne st.ne]; exact ha1, setC_same, ok.loc _ _ _ w fun b hb => setC_ne fun e => st.zs (e ▸ hb), st.za, st.zs, st.ne, by
        rw [List.nodup_append]
        exact ⟨st.nd, by simp, fun x hx y hy => by rw [List.mem_singleton.mp hy]; exact fun e => hm (e ▸ hx)⟩, fun p hp => by
        rcases List.mem_append.mp hp with hp | hp
        · exact st.inS p hp
        · rw [List.mem_singleton.mp hp]; exact hS⟩
      have ha2 := st'.ha
      have hs2 := st'.hs
      have hl' : (kvOf L.fv as).length < sizeLine := by rw [kv_len]; omega
      simp_all_arith! [ha1, hs1, fl_seen, keyOf_2, dtp_put hm, ha2, hs2, dtp_in (List.mem_append_right as (List.mem_singleton.mpr rfl))]
      refine ⟨hl', ?_⟩
      simp_all_arith! [ha2, hs2, fl_seen, keyOf_2, dtp_in (List.mem_append_right as (List.mem_singleton.mpr rfl))]
      exact ⟨_, sub_refl _, kk _ _ st' ⟨by rw [List.length_append, List.length_singleton]; omega, fun b h1 h2 => (setC_ne h1).trans (o b h2)⟩⟩
/-- ranks -/
def Lk.RankR (L : Lk) (ds : List D) (C : CM) (P : D → CM → Prop) : Prop := ∃ (a s : Addr) (r c : Nat) (as : List (Nat × Nat)), ds = [.ref a, .int (r : Nat), .int (c : Nat)] ∧ L.St a s as C ∧ r < L.n ∧ c < L.m ∧ as.length + 1 < sizeLine ∧
  ∀ as' C', L.St a s as' C' → L.Af s 1 as C as' C' → P (.tup [.int (L.R r c).1, .int (L.R r c).2]) C'
theorem sp_rank (ok : L.Ok tb k) (hn : Sp tb "Looker.number_at" (k + 1) L.NumR) (h : tb.lookup "Looker.rank" = some iLooker_rank) : Sp tb "Looker.rank" (k + 2) L.RankR :=
  sp_mk h fun n hnn ds C P ex ⟨a, s, r, c, as, e, st, hr, hc, hl, kk⟩ => by
    subst e
    refine ⟨rfl, ?_⟩
    have ha := st.ha
    have hs := st.hs
    refine cut_tail' fun N hN => ?_
    have tail : ∀ r1 c1 : Nat, r1 < L.n → c1 < L.m → L.R r c = L.rk0 r1 c1 → N [some (.dat (.ref a)), some (.dat (.int (r1 : Nat))), some (.dat (.int (c1 : Nat))), none, none] C := fun r1 c1 h1 h2 he => hN _ _ (by
      simp_all_arith! [ha, fl_str, strD, str_at h1]
      rw [he] at kk
      by_cases q1 : L.lo r1 ≤ c1
      · by_cases q2 : c1 ≤ L.hi r1
        · have e : L.rk0 r1 c1 = (0, L.fv r1 c1) := if_pos ⟨q1, q2⟩
          simp_all_arith! [show ((L.lo r1 : Nat) : Int) ≤ (c1 : Nat) by omega, show ((c1 : Nat) : Int) ≤ (L.hi r1 : Nat) by omega, ha, fl_m]
          refine hn n hnn _ _ _ _ ⟨a, s, r1, c1, as, rfl, st, ⟨h1, q1, q2⟩, hl, fun as' C' st' af => ?_⟩
          rw [e] at kk
          exact ⟨C', sub_refl _, kk as' C' st' af⟩
        · have e : L.rk0 r1 c1 = (1, _) := if_neg fun z => q2 z.2
          rw [e] at kk
          have := kk as C st .refl
          simp_all_arith! [show ((L.lo r1 : Nat) : Int) ≤ (c1 : Nat) by omega, show ¬ ((c1 : Nat) : Int) ≤ (L.hi r1 : Nat) by omega]
          exact ⟨C, sub_refl _, this⟩
      · have e : L.rk0 r1 c1 = (1, _) := if_neg fun z => q1 z.1
        rw [e] at kk
        have := kk as C st .refl
        simp_all_arith! [show ¬ ((L.lo r1 : Nat) : Int) ≤ (c1 : Nat) by omega]
        exact ⟨C, sub_refl _, this⟩)
    simp_all_arith! [ha, hs, fl_ab]
    cases hab : L.ab with
    | true =>
      rw [if_pos rfl]
      simp_all_arith! [ha, fl_str, fl_col, strD, List.length_range]
      have h1 := tail (L.n - 1 - r) (L.m - 1 - c) (by omega) (by omega) (if_pos hab)
      rw [show ((L.n - 1 - r : Nat) : Int) = (L.n : Int) - 1 - (r : Int) by omega, show ((L.m - 1 - c : Nat) : Int) = (L.m : Int) - 1 - (c : Int) by omega] at h1
      exact h1
    | false =>
      rw [if_neg (by decide)]
      simp_all_arith! []
      exact tail r c hr hc (if_neg (by rw [hab]; decide))
/-- who is beaten -/
def Lk.BeatR (L : Lk) (ds : List D) (C : CM) (P : D → CM → Prop) : Prop := ∃ (a s : Addr) (r c c' : Nat) (as : List (Nat × Nat)), ds = [.ref a, .int (r : Nat), .int (c : Nat), .int (c' : Nat)] ∧ L.St a s as C ∧ r < L.n ∧ c < L.m ∧ c' < L.m ∧ as.length + 2 < sizeLine ∧
  ∀ as' C', L.St a s as' C' → L.Af s 2 as C as' C' → P (.bl (bt L.R r c c')) C'
theorem intsOf_2 (i j : Int) : intsOf [.int i, .int j] = some [i, j] := rfl
theorem sp_beat (hn : Sp tb "Looker.rank" (k + 2) L.RankR) (h : tb.lookup "Looker.is_beaten" = some iLooker_is_beaten) : Sp tb "Looker.is_beaten" (k + 3) L.BeatR :=
  sp_mk h fun n hnn ds C P ex ⟨a, s, r, c, c', as, e, st, hr, hc, hc', hl, kk⟩ => by
    subst e
    refine ⟨rfl, ?_⟩
    have ha := st.ha
    simp_all_arith! [iLooker_is_beaten, ha, fl_m]
    refine hn n hnn _ _ _ _ ⟨a, s, r, c', as, rfl, st, hr, hc', by omega, fun as1 C1 st1 af1 => ?_⟩
    have ha1 := st1.ha
    simp_all_arith! [ha1, fl_m]
    refine hn n hnn _ _ _ _ ⟨a, s, r, c, as1, rfl, st1, hr, hc, by have := af1.len; omega, fun as2 C2 st2 af2 => ?_⟩
    simp_all_arith! [intsOf_2, lexLt_2]
    exact ⟨C2, sub_refl _, kk as2 C2 st2 (af1.trans af2 (by omega))⟩
end
end M61.LK

set_option Elab.async false
set_option linter.all false
set_option autoImplicit false
set_option maxRecDepth 100000
/-! P72: columns let go, first leasts. -/
namespace M61.LK
open PySem PySem.Spec PyProof.Rows L2
local macro_rules
  | `(tactic| simp_arith! [$ls,*] $[$loc:location]?) => `(tactic| try simp only [wipeR_cons, wipeR_nil, eq_self, denE, denT, denEs, denO, denC, denI, bindT_nm, bindT_tp, bindT_tl, bindTs_nil, bindTs_cons, varD_0, varD_s, varM_own0, varM_dat0, varM_s, varO_0, varO_s, varL_own0, varL_ref0, varL_s, sz, cp1, cp2, cp3, cp4, cp5, cp6, cp7, cp8, cp9, cp10, cp11, cp12, cp15, cp18, add_i, add_t, add_l, add_s, add_b, sub_b, sub_i, mul_i, mul_t, mul_sgn, mul_l, fdiv_i, mod_i, pow_i, shl_i, eq_r, ne_r, inn_t, nin_t, inn_l, nin_l, lt_r, lt_tt, le_r, gt_r, ge_r, is_n, isn_n, is_b, isn_b, isNon_n, isNon_i, isNon_t, isNon_l, isNon_b, isNon_s, tru_n, tru_b, tru_i, tru_t, tru_l, ix_t, ix_l, ix_c, ix_r, cellAt_l, cellL_l, lstD_l, lstD_r, sqD_t, sqD_l, sl_t, sl_l, sl_c, sl_r, rev_t, rev_l, len_t, len_l, len_c, len_r, tup_t, tup_l, tup_r, sum_t, sum_l, sum_r, min_t, min_l, max_t, max_l, min_2, max_2, min_3, repr_r, str_ri, abs_i, int_i, int_b, all_l, any_l, ty_bb, ty_bi, ty_bn, ty_bt, ty_ss, ty_sn, ty_si, ty_sb, ty_ii, ty_ib, ty_in, ty_it, ty_tt, ty_tn, ty_ti, ty_tb, ty_ll, ty_lt, ty_is, ty_il, ty_bs, ty_blst, ty_st, ty_sl, ty_ts, ty_tl, ty_ln, ty_li, ty_lb, ty_ls, intsOf_map, boolsOf_map, pair_Cmp, int_Cmp, bl_Cmp, non_Cmp, ints_Cmp, intst_Cmp, eqv_int, eqv_bl, eqv_ints, eqv_intst, List.map_cons, List.map_nil, List.replicate_succ, List.replicate_zero, List.cons_append, List.nil_append, List.set_cons_zero, List.set_cons_succ, List.length_cons, List.length_nil, List.getElem?_cons_zero, List.getElem?_cons_succ, List.eraseIdx_cons_zero, Nat.reduceSub, Nat.reduceAdd, Nat.reduceLT, Nat.reduceLeDiff, Nat.reducePow, Nat.reduceEqDiff, Nat.reduceMul, Int.reducePow, Int.reduceToNat, Int.reduceMul, Int.reduceAdd, Int.reduceSub, Int.reduceNeg, Int.reduceLT, Int.reduceLE, Int.reduceEq, Int.reduceBEq, Int.reduceBNe, zero_add', not_true_eq_false, not_false_eq_true, Bool.true_eq_false, false_and, and_false, true_and, and_true, exists_eq_left', exists_and_left, Option.some.injEq, Cell.lst.injEq, Cell.dct.injEq, Cell.dtp.injEq, Cell.ins.injEq, if_pos_true, reduceIte, Bool.false_eq_true, decide_true, decide_false, Bool.not_true, Bool.not_false, Bool.not_eq_true', Bool.and_true, Bool.true_and, decide_eq_true_eq, decide_eq_false_iff_not, ite_self, List.isEmpty_cons, List.isEmpty_nil, ss_nil', ss_cons', s_set', s_own', s_setF', s_unp', s_par2', par2K_e, s_par3', par3K_e, s_app', s_ext', extK_e, s_exp', s_csub', csubK_e, s_dset', dsetK_e, s_capp', cappK_e, s_aug', augK_a, augK_s, s_oset', osetK_e, s_ife', s_for', s_forc', forcK_e, s_whl', s_ret', s_ret0', s_pass', s_brk', s_cnt', l_comp', l_compc', compcK_e, l_lit', l_cat', l_cato', l_rvd', l_lrv', l_ls2', l_list', l_srt', srtK_e, l_srr', srrK_e, l_lrg1', l_lrg2', lrgK_e, l_rep', repK_e, s_fset', fsetK_e, s_dpt', dptK_e, s_ndef', s_mkr', s_mkc', l_odd', oddK_e, setM_nil, setM_cons, Int.toNat_natCast, List.length_map, exists_eq_left, $ls,*] $[$loc]?)
local macro_rules
  | `(tactic| simp_all_arith! [$ls,*]) => `(tactic| ((try simp only [wipeR_cons, wipeR_nil, eq_self, denE, denT, denEs, denO, denC, denI, bindT_nm, bindT_tp, bindT_tl, bindTs_nil, bindTs_cons, varD_0, varD_s, varM_own0, varM_dat0, varM_s, varO_0, varO_s, varL_own0, varL_ref0, varL_s, sz, cp1, cp2, cp3, cp4, cp5, cp6, cp7, cp8, cp9, cp10, cp11, cp12, cp15, cp18, add_i, add_t, add_l, add_s, add_b, sub_b, sub_i, mul_i, mul_t, mul_sgn, mul_l, fdiv_i, mod_i, pow_i, shl_i, eq_r, ne_r, inn_t, nin_t, inn_l, nin_l, lt_r, lt_tt, le_r, gt_r, ge_r, is_n, isn_n, is_b, isn_b, isNon_n, isNon_i, isNon_t, isNon_l, isNon_b, isNon_s, tru_n, tru_b, tru_i, tru_t, tru_l, ix_t, ix_l, ix_c, ix_r, cellAt_l, cellL_l, lstD_l, lstD_r, sqD_t, sqD_l, sl_t, sl_l, sl_c, sl_r, rev_t, rev_l, len_t, len_l, len_c, len_r, tup_t, tup_l, tup_r, sum_t, sum_l, sum_r, min_t, min_l, max_t, max_l, min_2, max_2, min_3, repr_r, str_ri, abs_i, int_i, int_b, all_l, any_l, ty_bb, ty_bi, ty_bn, ty_bt, ty_ss, ty_sn, ty_si, ty_sb, ty_ii, ty_ib, ty_in, ty_it, ty_tt, ty_tn, ty_ti, ty_tb, ty_ll, ty_lt, ty_is, ty_il, ty_bs, ty_blst, ty_st, ty_sl, ty_ts, ty_tl, ty_ln, ty_li, ty_lb, ty_ls, intsOf_map, boolsOf_map, pair_Cmp, int_Cmp, bl_Cmp, non_Cmp, ints_Cmp, intst_Cmp, eqv_int, eqv_bl, eqv_ints, eqv_intst, List.map_cons, List.map_nil, List.replicate_succ, List.replicate_zero, List.cons_append, List.nil_append, List.set_cons_zero, List.set_cons_succ, List.length_cons, List.length_nil, List.getElem?_cons_zero, List.getElem?_cons_succ, List.eraseIdx_cons_zero, Nat.reduceSub, Nat.reduceAdd, Nat.reduceLT, Nat.reduceLeDiff, Nat.reducePow, Nat.reduceEqDiff, Nat.reduceMul, Int.reducePow, Int.reduceToNat, Int.reduceMul, Int.reduceAdd, Int.reduceSub, Int.reduceNeg, Int.reduceLT, Int.reduceLE, Int.reduceEq, Int.reduceBEq, Int.reduceBNe, zero_add', not_true_eq_false, not_false_eq_true, Bool.true_eq_false, false_and, and_false, true_and, and_true, exists_eq_left', exists_and_left, Option.some.injEq, Cell.lst.injEq, Cell.dct.injEq, Cell.dtp.injEq, Cell.ins.injEq, if_pos_true, reduceIte, Bool.false_eq_true, decide_true, decide_false, Bool.not_true, Bool.not_false, Bool.not_eq_true', Bool.and_true, Bool.true_and, decide_eq_true_eq, decide_eq_false_iff_not, ite_self, List.isEmpty_cons, List.isEmpty_nil, ss_nil', ss_cons', s_set', s_own', s_setF', s_unp', s_par2', par2K_e, s_par3', par3K_e, s_app', s_ext', extK_e, s_exp', s_csub', csubK_e, s_dset', dsetK_e, s_capp', cappK_e, s_aug', augK_a, augK_s, s_oset', osetK_e, s_ife', s_for', s_forc', forcK_e, s_whl', s_ret', s_ret0', s_pass', s_brk', s_cnt', l_comp', l_compc', compcK_e, l_lit', l_cat', l_cato', l_rvd', l_lrv', l_ls2', l_list', l_srt', srtK_e, l_srr', srrK_e, l_lrg1', l_lrg2', lrgK_e, l_rep', repK_e, s_fset', fsetK_e, s_dpt', dptK_e, s_ndef', s_mkr', s_mkc', l_odd', oddK_e, setM_nil, setM_cons, Int.toNat_natCast, List.length_map, exists_eq_left, $ls,*]); (repeat ((with_reducible (first | refine blk_of ?_ | refine turn_of ?_ | refine tst_of ?_)); (try simp only [wipeR_cons, wipeR_nil, eq_self, denE, denT, denEs, denO, denC, denI, bindT_nm, bindT_tp, bindT_tl, bindTs_nil, bindTs_cons, varD_0, varD_s, varM_own0, varM_dat0, varM_s, varO_0, varO_s, varL_own0, varL_ref0, varL_s, sz, cp1, cp2, cp3, cp4, cp5, cp6, cp7, cp8, cp9, cp10, cp11, cp12, cp15, cp18, add_i, add_t, add_l, add_s, add_b, sub_b, sub_i, mul_i, mul_t, mul_sgn, mul_l, fdiv_i, mod_i, pow_i, shl_i, eq_r, ne_r, inn_t, nin_t, inn_l, nin_l, lt_r, lt_tt, le_r, gt_r, ge_r, is_n, isn_n, is_b, isn_b, isNon_n, isNon_i, isNon_t, isNon_l, isNon_b, isNon_s, tru_n, tru_b, tru_i, tru_t, tru_l, ix_t, ix_l, ix_c, ix_r, cellAt_l, cellL_l, lstD_l, lstD_r, sqD_t, sqD_l, sl_t, sl_l, sl_c, sl_r, rev_t, rev_l, len_t, len_l, len_c, len_r, tup_t, tup_l, tup_r, sum_t, sum_l, sum_r, min_t, min_l, max_t, max_l, min_2, max_2, min_3, repr_r, str_ri, abs_i, int_i, int_b, all_l, any_l, ty_bb, ty_bi, ty_bn, ty_bt, ty_ss, ty_sn, ty_si, ty_sb, ty_ii, ty_ib, ty_in, ty_it, ty_tt, ty_tn, ty_ti, ty_tb, ty_ll, ty_lt, ty_is, ty_il, ty_bs, ty_blst, ty_st, ty_sl, ty_ts, ty_tl, ty_ln, ty_li, ty_lb, ty_ls, intsOf_map, boolsOf_map, pair_Cmp, int_Cmp, bl_Cmp, non_Cmp, ints_Cmp, intst_Cmp, eqv_int, eqv_bl, eqv_ints, eqv_intst, List.map_cons, List.map_nil, List.replicate_succ, List.replicate_zero, List.cons_append, List.nil_append, List.set_cons_zero, List.set_cons_succ, List.length_cons, List.length_nil, List.getElem?_cons_zero, List.getElem?_cons_succ, List.eraseIdx_cons_zero, Nat.reduceSub, Nat.reduceAdd, Nat.reduceLT, Nat.reduceLeDiff, Nat.reducePow, Nat.reduceEqDiff, Nat.reduceMul, Int.reducePow, Int.reduceToNat, Int.reduceMul, Int.reduceAdd, Int.reduceSub, Int.reduceNeg, Int.reduceLT, Int.reduceLE, Int.reduceEq, Int.reduceBEq, Int.reduceBNe, zero_add', not_true_eq_false, not_false_eq_true, Bool.true_eq_false, false_and, and_false, true_and, and_true, exists_eq_left', exists_and_left, Option.some.injEq, Cell.lst.injEq, Cell.dct.injEq, Cell.dtp.injEq, Cell.ins.injEq, if_pos_true, reduceIte, Bool.false_eq_true, decide_true, decide_false, Bool.not_true, Bool.not_false, Bool.not_eq_true', Bool.and_true, Bool.true_and, decide_eq_true_eq, decide_eq_false_iff_not, ite_self, List.isEmpty_cons, List.isEmpty_nil, ss_nil', ss_cons', s_set', s_own', s_setF', s_unp', s_par2', par2K_e, s_par3', par3K_e, s_app', s_ext', extK_e, s_exp', s_csub', csubK_e, s_dset', dsetK_e, s_capp', cappK_e, s_aug', augK_a, augK_s, s_oset', osetK_e, s_ife', s_for', s_forc', forcK_e, s_whl', s_ret', s_ret0', s_pass', s_brk', s_cnt', l_comp', l_compc', compcK_e, l_lit', l_cat', l_cato', l_rvd', l_lrv', l_ls2', l_list', l_srt', srtK_e, l_srr', srrK_e, l_lrg1', l_lrg2', lrgK_e, l_rep', repK_e, s_fset', fsetK_e, s_dpt', dptK_e, s_ndef', s_mkr', s_mkc', l_odd', oddK_e, setM_nil, setM_cons, Int.toNat_natCast, List.length_map, exists_eq_left, $ls,*])))))
def ireduced : Def := ⟨3, 5,
  (.cons (.own 3 (.lit .nil))
  (.cons (.for (.nm 4) (.seq (.var 2)) (.cons (.whl (.and (.one 3) (.val (.meth "Looker" "is_beaten" (.var 0) (.cons (.ix (.var 1) (.bin .sub (.olen 3) (.int 1))) (.cons (.oix 3 (.neg (.int 1))) (.cons (.var 4) .nil)))))) (.cons (.exp (.opop 3))
  .nil))
  (.cons (.ife (.cmp .lt (.olen 3) (.blt .len (.cons (.var 1) .nil))) (.cons (.app 3 (.var 4))
  .nil) .nil)
  .nil)))
  (.cons (.ret (.mv 3))
  .nil)))⟩
def ifirst_best : Def := ⟨3, 5,
  (.cons (.set 3 (.ix (.var 2) (.int 0)))
  (.cons (.for (.nm 4) (.seq (.sl (.var 2) (.yes (.int 1)) .no)) (.cons (.ife (.val (.meth "Looker" "is_beaten" (.var 0) (.cons (.var 1) (.cons (.var 3) (.cons (.var 4) .nil))))) (.cons (.set 3 (.var 4))
  .nil) .nil)
  .nil))
  (.cons (.ret (.var 3))
  .nil)))⟩
def nD (c : Nat) : D := .int ((c : Nat) : Int)
theorem nD_ints (xs : List Nat) : xs.map nD = (xs.map fun c => ((c : Nat) : Int)).map D.int := by rw [List.map_map]; rfl
theorem nD_Cmp (xs : List Nat) : (D.lst (xs.map nD)).Cmp := by rw [nD_ints]; exact ints_Cmp _
theorem at_nD {xs : List Nat} {i : Nat} {x : Nat} (h : xs[i]? = some x) : atI (xs.map nD) ((i : Nat) : Int) = some (nD x) := by
  rw [atI_map, atI_nat h]; rfl
theorem fb_app {R : Rk} {r : Nat} : ∀ (xs : List Nat) (f c : Nat), fb R r f (xs ++ [c]) = if bt R r (fb R r f xs) c = true then c else fb R r f xs
  | [], f, c => rfl
  | x :: xs, f, c => fb_app xs _ c
theorem fb_mem {R : Rk} {r : Nat} : ∀ (xs : List Nat) (f : Nat), fb R r f xs ∈ f :: xs
  | [], f => List.mem_cons_self
  | x :: xs, f => by
    show fb R r (if bt R r f x = true then x else f) xs ∈ f :: x :: xs
    have := fb_mem (R := R) (r := r) xs (if bt R r f x = true then x else f)
    rcases List.mem_cons.mp this with e | e
    · rw [e]; split
      · exact List.mem_cons_of_mem _ List.mem_cons_self
      · exact List.mem_cons_self
    · exact List.mem_cons_of_mem _ (List.mem_cons_of_mem _ e)
section
variable {L : Lk} {tb : List (String × Def)} {k : Nat}
def Lk.RedR (L : Lk) (ds : List D) (C : CM) (P : D → CM → Prop) : Prop := ∃ (a s : Addr) (rows cols : List Nat) (as : List (Nat × Nat)), ds = [.ref a, .lst (rows.map nD), .lst (cols.map nD)] ∧ L.St a s as C ∧ Up rows ∧ (∀ r ∈ rows, r < L.n) ∧ rows ≠ [] ∧ Up cols ∧ (∀ c ∈ cols, c < L.m) ∧ cols ≠ [] ∧ TM L.R L.n L.m ∧ as.length + 4 * cols.length + 2 < sizeLine ∧
  ∀ kept as' C', Red L.R rows cols kept [] → L.St a s as' C' → L.Af s (2 * (2 * cols.length - kept.length)) as C as' C' → P (.lst (kept.map nD)) C'
theorem sp_red (hb : Sp tb "Looker.is_beaten" (k + 3) L.BeatR) (h : tb.lookup "reduced" = some ireduced) : Sp tb "reduced" (k + 4) L.RedR :=
  sp_mk h fun n hnn ds C P ex ⟨a, s, rows, cols, as, e, st, ur, hr, nr, uc, hc, nc, tm, hl, kk⟩ => by
    subst e
    refine ⟨rfl, ?_⟩
    simp_all_arith! [ireduced]
    refine for_m nD [3, 4] (fun done ys C' => ∃ kept as1 x, ys = [some (.own (kept.map nD)), x] ∧ Red L.R rows done kept [] ∧ L.St a s as1 C' ∧ L.Af s (2 * (2 * done.length - kept.length)) as C as1 C') [some (.own []), none] rfl ⟨[], as, none, rfl, .start, st, .refl⟩ (fun done c rest ys C' e ⟨kept, as1, x, hy, red, st1, af⟩ nx knx => ?_) fun ys C' ⟨kept, as1, x, hy, red, st1, af⟩ => ?_
    · subst hy
      have hcm : c < L.m := hc c (by rw [e]; simp)
      have hdc : ∀ d ∈ done, d < c := fun d hd => by
        have := uc; rw [e] at this
        exact (List.pairwise_append.mp this).2.2 d hd c List.mem_cons_self
      have ud : Up done := uc.sublist (by rw [e]; exact List.sublist_append_left _ _)
      have hlen : cols.length = done.length + (rest.length + 1) := by rw [e, List.length_append, List.length_cons]
      simp_all_arith! []
      refine whl_inv (m := kept.length) (I := fun mm ρ C' => ∃ kept as1, ρ = [some (.dat (.ref a)), some (.dat (.lst (rows.map nD))), some (.dat (.lst (cols.map nD))), some (.own (kept.map nD)), some (.dat (nD c))] ∧ mm = kept.length ∧ Red L.R rows done kept [c] ∧ L.St a s as1 C' ∧ L.Af s (2 * (2 * done.length - kept.length)) as C as1 C') ⟨kept, as1, rfl, rfl, red.enter, st1, af⟩ (fun mm ρ C1 ⟨kept, as1, hρ, hm, red, st1, af⟩ nx2 knx2 => ?_)
      subst hρ hm
      have hk1 := red.sub.length_le
      have hl1 := af.len
      have ha1 := st1.ha
      have fin : ∀ as2 C2, L.St a s as2 C2 → L.Af s 2 as1 C1 as2 C2 → (kept = [] → as2 = as1) → (∀ top r, kept.getLast? = some top → rows[kept.length - 1]? = some r → bt L.R r top c = false) → (kept.length < rows.length → nx [some (.dat (.ref a)), some (.dat (.lst (rows.map nD))), some (.dat (.lst (cols.map nD))), some (.own ((kept ++ [c]).map nD)), some (.dat (nD c))] C2) ∧ (¬ kept.length < rows.length → nx [some (.dat (.ref a)), some (.dat (.lst (rows.map nD))), some (.dat (.lst (cols.map nD))), some (.own (kept.map nD)), some (.dat (nD c))] C2) := fun as2 C2 st2 af2 h0 hbt => by
        have hl2 := af2.len
        refine ⟨fun lt => knx [_, _] _ ⟨kept ++ [c], as2, some (.dat (nD c)), rfl, red.push lt hbt, st2, ⟨?_, (af.trans af2 (Nat.le_refl _)).old⟩⟩, fun lt => knx [_, _] _ ⟨kept, as2, some (.dat (nD c)), rfl, red.skip tm ur hr hdc hcm nr lt hbt, st2, ⟨?_, (af.trans af2 (Nat.le_refl _)).old⟩⟩⟩
        · rw [List.length_append, List.length_append, List.length_singleton]
          cases kept with
          | nil => rw [h0 rfl]; rw [List.length_nil] at *; omega
          | cons x xs => rw [List.length_cons] at *; omega
        · rw [List.length_append, List.length_singleton]
          omega
      have l16 : sizeLine = 16777216 := rfl
      rcases List.eq_nil_or_concat kept with e0 | ⟨ks, top, e0⟩
      · subst e0
        have f := fin as1 C1 st1 .refl (fun _ => rfl) (fun top r h => by cases h)
        simp_all_arith! []
        refine ⟨nD_Cmp [], ?_⟩
        simp_all_arith! []
        split
        · rename_i lt
          simp_all_arith! []
          refine f.1 ?_
          rw [List.length_nil]
          have : (((0 : Nat)) : Int) < (rows.length : Nat) := lt
          omega
        · rename_i lt
          simp_all_arith! []
          refine f.2 fun q => lt ?_
          rw [List.length_nil] at q
          show (((0 : Nat)) : Int) < (rows.length : Nat)
          omega
      · rw [List.concat_eq_append] at e0
        have kc : (D.lst (kept.map nD)).Cmp := nD_Cmp kept
        have hne : (kept.map nD).isEmpty = false := by rw [e0, List.map_append]; cases ks <;> rfl
        have hkl : kept.length = ks.length + 1 := by rw [e0, List.length_append]; rfl
        have g0 : kept.getLast? = some top := by rw [e0, List.getLast?_append]; rfl
        have gl : atI (kept.map nD) (-1) = some (nD top) := by rw [e0, List.map_append]; exact atI_last _ _
        have hkr := red.len
        have gr : rows[ks.length]? = some rows[ks.length] := List.getElem?_eq_getElem (by omega)
        have gr2 : atI (rows.map nD) (((kept.length : Nat) : Int) - 1) = some (nD rows[ks.length]) := by
          rw [show ((kept.length : Nat) : Int) - 1 = ((ks.length : Nat) : Int) by omega]; exact at_nD gr
        have gp : (kept.map nD)[kept.length - 1]? = some (nD top) := by
          rw [List.getElem?_map, ← List.getLast?_eq_getElem?, g0]; rfl
        have gd : (kept.map nD).dropLast = ks.map nD := by rw [e0, List.map_append]; exact List.dropLast_concat
        have htm : top < L.m := hc top (by rw [e]; exact List.mem_append_left _ (red.sub.subset (by rw [e0]; exact List.mem_append_right _ List.mem_cons_self)))
        simp_all_arith! [hne]
        refine ⟨kc, ?_⟩
        simp_all_arith! [hne, gl, gr2, ha1, fl_m]
        refine hb n hnn _ _ _ _ ⟨a, s, rows[ks.length], top, c, as1, rfl, st1, hr _ (List.getElem_mem _), htm, hcm, by omega, fun as2 C2 st2 af2 => ?_⟩
        have hl2 := af2.len
        simp_all_arith! []
        cases hbt : bt L.R rows[ks.length] top c with
        | true =>
          rw [if_pos rfl]
          simp_all_arith! [gp, gd]
          refine knx2 ks.length _ _ (by omega) ⟨ks, as2, rfl, rfl, ?_, st2, ⟨by omega, (af.trans af2 (Nat.le_refl _)).old⟩⟩
          rw [e0] at red
          exact red.pop tm ur hr ud hdc hcm gr hbt
        | false =>
          rw [if_neg (by decide)]
          have f := fin as2 C2 st2 af2 (fun q => by rw [q, List.length_nil] at hkl; omega) (fun top' r' h1 h2 => by
            rw [g0] at h1
            rw [hkl, Nat.add_sub_cancel, gr] at h2
            rw [← Option.some.inj h1, ← Option.some.inj h2]; exact hbt)
          simp_all_arith! []
          split
          · rename_i lt
            have f1 := f.1 (by omega)
            rw [List.map_append] at f1
            simp_all_arith! []
            refine ⟨by omega, f1⟩
          · rename_i lt
            simp_all_arith! []
            exact f.2 (by omega)
    · subst hy
      simp_all_arith! []
      exact ⟨_, sub_refl _, kk kept as1 C' red st1 af⟩
def Lk.BestR (L : Lk) (ds : List D) (C : CM) (P : D → CM → Prop) : Prop := ∃ (a s : Addr) (r c : Nat) (cs : List Nat) (as : List (Nat × Nat)), ds = [.ref a, .int ((r : Nat) : Int), .lst ((c :: cs).map nD)] ∧ L.St a s as C ∧ r < L.n ∧ (∀ x ∈ c :: cs, x < L.m) ∧ as.length + 2 * cs.length + 2 < sizeLine ∧
  ∀ as' C', L.St a s as' C' → L.Af s (2 * cs.length) as C as' C' → P (nD (fb L.R r c cs)) C'
theorem sp_first (hb : Sp tb "Looker.is_beaten" (k + 3) L.BeatR) (h : tb.lookup "first_best" = some ifirst_best) : Sp tb "first_best" (k + 4) L.BestR :=
  sp_mk h fun n hnn ds C P ex ⟨a, s, r, c, cs, as, e, st, hr, hc, hl, kk⟩ => by
    subst e
    refine ⟨rfl, ?_⟩
    have e1 : cutD ((c :: cs).map nD) (some 1) none = cs.map nD := by rw [cutD_map, cut_rest]; rfl
    rw [List.map_cons] at e1 ⊢
    simp_all_arith! [ifirst_best, atI_0, e1]
    refine for_m nD [3, 4] (fun done ys C' => ∃ as1 x, ys = [some (.dat (nD (fb L.R r c done))), x] ∧ L.St a s as1 C' ∧ L.Af s (2 * done.length) as C as1 C') [some (.dat (nD c)), none] rfl ⟨as, none, rfl, st, .refl⟩ (fun done x rest ys C' e ⟨as1, y, hy, st1, af⟩ nx knx => ?_) fun ys C' ⟨as1, x, hy, st1, af⟩ => ?_
    · subst hy
      have ha := st1.ha
      have hlen : cs.length = done.length + (rest.length + 1) := by rw [e, List.length_append, List.length_cons]
      have hl1 := af.len
      have hx : x < L.m := hc x (List.mem_cons_of_mem _ (by rw [e]; simp))
      have hf : fb L.R r c done < L.m := by
        refine hc _ ?_
        rcases List.mem_cons.mp (fb_mem (R := L.R) (r := r) done c) with q | q
        · rw [q]; exact List.mem_cons_self
        · exact List.mem_cons_of_mem _ (by rw [e]; exact List.mem_append_left _ q)
      simp_all_arith! [ha, fl_m]
      refine hb n hnn _ _ _ _ ⟨a, s, r, fb L.R r c done, x, as1, rfl, st1, hr, hf, hx, by omega, fun as2 C2 st2 af2 => ?_⟩
      have af3 := af.trans af2 (i := 2 * (done ++ [x]).length) (by rw [List.length_append, List.length_singleton]; omega)
      simp_all_arith! []
      cases hbt : bt L.R r (fb L.R r c done) x with
      | true =>
        rw [if_pos rfl]
        simp_all_arith! []
        exact knx [_, _] _ ⟨as2, some (.dat (nD x)), by rw [fb_app, if_pos hbt], st2, af3⟩
      | false =>
        rw [if_neg (by decide)]
        simp_all_arith! []
        exact knx [_, _] _ ⟨as2, some (.dat (nD x)), by rw [fb_app, if_neg (by rw [hbt]; decide)], st2, af3⟩
    · subst hy
      simp_all_arith! []
      exact ⟨_, sub_refl _, kk as1 C' st1 af⟩
end
end M61.LK

set_option Elab.async false
set_option linter.all false
set_option autoImplicit false
set_option maxRecDepth 100000
/-! P73: in between, best of, least by. -/
namespace M61.LK
open PySem PySem.Spec PyProof.Rows L2
local macro_rules
  | `(tactic| simp_arith! [$ls,*] $[$loc:location]?) => `(tactic| try simp only [wipeR_cons, wipeR_nil, eq_self, denE, denT, denEs, denO, denC, denI, bindT_nm, bindT_tp, bindT_tl, bindTs_nil, bindTs_cons, varD_0, varD_s, varM_own0, varM_dat0, varM_s, varO_0, varO_s, varL_own0, varL_ref0, varL_s, sz, cp1, cp2, cp3, cp4, cp5, cp6, cp7, cp8, cp9, cp10, cp11, cp12, cp15, cp18, add_i, add_t, add_l, add_s, add_b, sub_b, sub_i, mul_i, mul_t, mul_sgn, mul_l, fdiv_i, mod_i, pow_i, shl_i, eq_r, ne_r, inn_t, nin_t, inn_l, nin_l, lt_r, lt_tt, le_r, gt_r, ge_r, is_n, isn_n, is_b, isn_b, isNon_n, isNon_i, isNon_t, isNon_l, isNon_b, isNon_s, tru_n, tru_b, tru_i, tru_t, tru_l, ix_t, ix_l, ix_c, ix_r, cellAt_l, cellL_l, lstD_l, lstD_r, sqD_t, sqD_l, sl_t, sl_l, sl_c, sl_r, rev_t, rev_l, len_t, len_l, len_c, len_r, tup_t, tup_l, tup_r, sum_t, sum_l, sum_r, min_t, min_l, max_t, max_l, min_2, max_2, min_3, repr_r, str_ri, abs_i, int_i, int_b, all_l, any_l, ty_bb, ty_bi, ty_bn, ty_bt, ty_ss, ty_sn, ty_si, ty_sb, ty_ii, ty_ib, ty_in, ty_it, ty_tt, ty_tn, ty_ti, ty_tb, ty_ll, ty_lt, ty_is, ty_il, ty_bs, ty_blst, ty_st, ty_sl, ty_ts, ty_tl, ty_ln, ty_li, ty_lb, ty_ls, intsOf_map, boolsOf_map, pair_Cmp, int_Cmp, bl_Cmp, non_Cmp, ints_Cmp, intst_Cmp, eqv_int, eqv_bl, eqv_ints, eqv_intst, List.map_cons, List.map_nil, List.replicate_succ, List.replicate_zero, List.cons_append, List.nil_append, List.set_cons_zero, List.set_cons_succ, List.length_cons, List.length_nil, List.getElem?_cons_zero, List.getElem?_cons_succ, List.eraseIdx_cons_zero, Nat.reduceSub, Nat.reduceAdd, Nat.reduceLT, Nat.reduceLeDiff, Nat.reducePow, Nat.reduceEqDiff, Nat.reduceMul, Int.reducePow, Int.reduceToNat, Int.reduceMul, Int.reduceAdd, Int.reduceSub, Int.reduceNeg, Int.reduceLT, Int.reduceLE, Int.reduceEq, Int.reduceBEq, Int.reduceBNe, zero_add', not_true_eq_false, not_false_eq_true, Bool.true_eq_false, false_and, and_false, true_and, and_true, exists_eq_left', exists_and_left, Option.some.injEq, Cell.lst.injEq, Cell.dct.injEq, Cell.dtp.injEq, Cell.ins.injEq, if_pos_true, reduceIte, Bool.false_eq_true, decide_true, decide_false, Bool.not_true, Bool.not_false, Bool.not_eq_true', Bool.and_true, Bool.true_and, decide_eq_true_eq, decide_eq_false_iff_not, ite_self, List.isEmpty_cons, List.isEmpty_nil, ss_nil', ss_cons', s_set', s_own', s_setF', s_unp', s_par2', par2K_e, s_par3', par3K_e, s_app', s_ext', extK_e, s_exp', s_csub', csubK_e, s_dset', dsetK_e, s_capp', cappK_e, s_aug', augK_a, augK_s, s_oset', osetK_e, s_ife', s_for', s_forc', forcK_e, s_whl', s_ret', s_ret0', s_pass', s_brk', s_cnt', l_comp', l_compc', compcK_e, l_lit', l_cat', l_cato', l_rvd', l_lrv', l_ls2', l_list', l_srt', srtK_e, l_srr', srrK_e, l_lrg1', l_lrg2', lrgK_e, l_rep', repK_e, s_fset', fsetK_e, s_dpt', dptK_e, s_ndef', s_mkr', s_mkc', l_odd', oddK_e, setM_nil, setM_cons, Int.toNat_natCast, List.length_map, exists_eq_left, $ls,*] $[$loc]?)
local macro_rules
  | `(tactic| simp_all_arith! [$ls,*]) => `(tactic| ((try simp only [wipeR_cons, wipeR_nil, eq_self, denE, denT, denEs, denO, denC, denI, bindT_nm, bindT_tp, bindT_tl, bindTs_nil, bindTs_cons, varD_0, varD_s, varM_own0, varM_dat0, varM_s, varO_0, varO_s, varL_own0, varL_ref0, varL_s, sz, cp1, cp2, cp3, cp4, cp5, cp6, cp7, cp8, cp9, cp10, cp11, cp12, cp15, cp18, add_i, add_t, add_l, add_s, add_b, sub_b, sub_i, mul_i, mul_t, mul_sgn, mul_l, fdiv_i, mod_i, pow_i, shl_i, eq_r, ne_r, inn_t, nin_t, inn_l, nin_l, lt_r, lt_tt, le_r, gt_r, ge_r, is_n, isn_n, is_b, isn_b, isNon_n, isNon_i, isNon_t, isNon_l, isNon_b, isNon_s, tru_n, tru_b, tru_i, tru_t, tru_l, ix_t, ix_l, ix_c, ix_r, cellAt_l, cellL_l, lstD_l, lstD_r, sqD_t, sqD_l, sl_t, sl_l, sl_c, sl_r, rev_t, rev_l, len_t, len_l, len_c, len_r, tup_t, tup_l, tup_r, sum_t, sum_l, sum_r, min_t, min_l, max_t, max_l, min_2, max_2, min_3, repr_r, str_ri, abs_i, int_i, int_b, all_l, any_l, ty_bb, ty_bi, ty_bn, ty_bt, ty_ss, ty_sn, ty_si, ty_sb, ty_ii, ty_ib, ty_in, ty_it, ty_tt, ty_tn, ty_ti, ty_tb, ty_ll, ty_lt, ty_is, ty_il, ty_bs, ty_blst, ty_st, ty_sl, ty_ts, ty_tl, ty_ln, ty_li, ty_lb, ty_ls, intsOf_map, boolsOf_map, pair_Cmp, int_Cmp, bl_Cmp, non_Cmp, ints_Cmp, intst_Cmp, eqv_int, eqv_bl, eqv_ints, eqv_intst, List.map_cons, List.map_nil, List.replicate_succ, List.replicate_zero, List.cons_append, List.nil_append, List.set_cons_zero, List.set_cons_succ, List.length_cons, List.length_nil, List.getElem?_cons_zero, List.getElem?_cons_succ, List.eraseIdx_cons_zero, Nat.reduceSub, Nat.reduceAdd, Nat.reduceLT, Nat.reduceLeDiff, Nat.reducePow, Nat.reduceEqDiff, Nat.reduceMul, Int.reducePow, Int.reduceToNat, Int.reduceMul, Int.reduceAdd, Int.reduceSub, Int.reduceNeg, Int.reduceLT, Int.reduceLE, Int.reduceEq, Int.reduceBEq, Int.reduceBNe, zero_add', not_true_eq_false, not_false_eq_true, Bool.true_eq_false, false_and, and_false, true_and, and_true, exists_eq_left', exists_and_left, Option.some.injEq, Cell.lst.injEq, Cell.dct.injEq, Cell.dtp.injEq, Cell.ins.injEq, if_pos_true, reduceIte, Bool.false_eq_true, decide_true, decide_false, Bool.not_true, Bool.not_false, Bool.not_eq_true', Bool.and_true, Bool.true_and, decide_eq_true_eq, decide_eq_false_iff_not, ite_self, List.isEmpty_cons, List.isEmpty_nil, ss_nil', ss_cons', s_set', s_own', s_setF', s_unp', s_par2', par2K_e, s_par3', par3K_e, s_app', s_ext', extK_e, s_exp', s_csub', csubK_e, s_dset', dsetK_e, s_capp', cappK_e, s_aug', augK_a, augK_s, s_oset', osetK_e, s_ife', s_for', s_forc', forcK_e, s_whl', s_ret', s_ret0', s_pass', s_brk', s_cnt', l_comp', l_compc', compcK_e, l_lit', l_cat', l_cato', l_rvd', l_lrv', l_ls2', l_list', l_srt', srtK_e, l_srr', srrK_e, l_lrg1', l_lrg2', lrgK_e, l_rep', repK_e, s_fset', fsetK_e, s_dpt', dptK_e, s_ndef', s_mkr', s_mkc', l_odd', oddK_e, setM_nil, setM_cons, Int.toNat_natCast, List.length_map, exists_eq_left, $ls,*]); (repeat ((with_reducible (first | refine blk_of ?_ | refine turn_of ?_ | refine tst_of ?_)); (try simp only [wipeR_cons, wipeR_nil, eq_self, denE, denT, denEs, denO, denC, denI, bindT_nm, bindT_tp, bindT_tl, bindTs_nil, bindTs_cons, varD_0, varD_s, varM_own0, varM_dat0, varM_s, varO_0, varO_s, varL_own0, varL_ref0, varL_s, sz, cp1, cp2, cp3, cp4, cp5, cp6, cp7, cp8, cp9, cp10, cp11, cp12, cp15, cp18, add_i, add_t, add_l, add_s, add_b, sub_b, sub_i, mul_i, mul_t, mul_sgn, mul_l, fdiv_i, mod_i, pow_i, shl_i, eq_r, ne_r, inn_t, nin_t, inn_l, nin_l, lt_r, lt_tt, le_r, gt_r, ge_r, is_n, isn_n, is_b, isn_b, isNon_n, isNon_i, isNon_t, isNon_l, isNon_b, isNon_s, tru_n, tru_b, tru_i, tru_t, tru_l, ix_t, ix_l, ix_c, ix_r, cellAt_l, cellL_l, lstD_l, lstD_r, sqD_t, sqD_l, sl_t, sl_l, sl_c, sl_r, rev_t, rev_l, len_t, len_l, len_c, len_r, tup_t, tup_l, tup_r, sum_t, sum_l, sum_r, min_t, min_l, max_t, max_l, min_2, max_2, min_3, repr_r, str_ri, abs_i, int_i, int_b, all_l, any_l, ty_bb, ty_bi, ty_bn, ty_bt, ty_ss, ty_sn, ty_si, ty_sb, ty_ii, ty_ib, ty_in, ty_it, ty_tt, ty_tn, ty_ti, ty_tb, ty_ll, ty_lt, ty_is, ty_il, ty_bs, ty_blst, ty_st, ty_sl, ty_ts, ty_tl, ty_ln, ty_li, ty_lb, ty_ls, intsOf_map, boolsOf_map, pair_Cmp, int_Cmp, bl_Cmp, non_Cmp, ints_Cmp, intst_Cmp, eqv_int, eqv_bl, eqv_ints, eqv_intst, List.map_cons, List.map_nil, List.replicate_succ, List.replicate_zero, List.cons_append, List.nil_append, List.set_cons_zero, List.set_cons_succ, List.length_cons, List.length_nil, List.getElem?_cons_zero, List.getElem?_cons_succ, List.eraseIdx_cons_zero, Nat.reduceSub, Nat.reduceAdd, Nat.reduceLT, Nat.reduceLeDiff, Nat.reducePow, Nat.reduceEqDiff, Nat.reduceMul, Int.reducePow, Int.reduceToNat, Int.reduceMul, Int.reduceAdd, Int.reduceSub, Int.reduceNeg, Int.reduceLT, Int.reduceLE, Int.reduceEq, Int.reduceBEq, Int.reduceBNe, zero_add', not_true_eq_false, not_false_eq_true, Bool.true_eq_false, false_and, and_false, true_and, and_true, exists_eq_left', exists_and_left, Option.some.injEq, Cell.lst.injEq, Cell.dct.injEq, Cell.dtp.injEq, Cell.ins.injEq, if_pos_true, reduceIte, Bool.false_eq_true, decide_true, decide_false, Bool.not_true, Bool.not_false, Bool.not_eq_true', Bool.and_true, Bool.true_and, decide_eq_true_eq, decide_eq_false_iff_not, ite_self, List.isEmpty_cons, List.isEmpty_nil, ss_nil', ss_cons', s_set', s_own', s_setF', s_unp', s_par2', par2K_e, s_par3', par3K_e, s_app', s_ext', extK_e, s_exp', s_csub', csubK_e, s_dset', dsetK_e, s_capp', cappK_e, s_aug', augK_a, augK_s, s_oset', osetK_e, s_ife', s_for', s_forc', forcK_e, s_whl', s_ret', s_ret0', s_pass', s_brk', s_cnt', l_comp', l_compc', compcK_e, l_lit', l_cat', l_cato', l_rvd', l_lrv', l_ls2', l_list', l_srt', srtK_e, l_srr', srrK_e, l_lrg1', l_lrg2', lrgK_e, l_rep', repK_e, s_fset', fsetK_e, s_dpt', dptK_e, s_ndef', s_mkr', s_mkc', l_odd', oddK_e, setM_nil, setM_cons, Int.toNat_natCast, List.length_map, exists_eq_left, $ls,*])))))
def ibetween : Def := ⟨4, 10,
  (.cons (.own 4 (.lit .nil))
  (.cons (.for (.tp (.cons (.nm 5) (.cons (.nm 6) .nil))) (.enum (.var 1)) (.cons (.ife (.cmp .eq (.bin .mod (.var 5) (.int 2)) (.int 1)) (.cons (.app 4 (.ix (.var 3) (.bin .fdiv (.var 5) (.int 2))))
  .nil) (.cons (.set 7 (.ix (.frz (.cato (.frz (.lit (.cons (.ix (.var 2) (.int 0)) .nil))) 4)) (.neg (.int 1))))
  (.cons (.set 8 (.ix (.bin .add (.var 3) (.frz (.lit (.cons (.ix (.var 2) (.neg (.int 1))) .nil)))) (.bin .fdiv (.var 5) (.int 2))))
  (.cons (.app 4 (.call "first_best" (.cons (.var 0) (.cons (.var 6) (.cons (.frz (.comp [9] (.var 9) (.nm 9) (.seq (.var 2)) (.yes (.chn .le .le (.var 7) (.var 9) (.var 8))))) .nil)))))
  .nil))))
  .nil))
  (.cons (.ret (.mv 4))
  .nil)))⟩
theorem zip_at {rows : List Nat} {done rest : List (Nat × Nat)} {x : Nat × Nat} (e : rows.zipIdx = done ++ x :: rest) : rows[done.length]? = some x.1 ∧ x.2 = done.length := by
  have h : rows.zipIdx[done.length]? = some x := by rw [e, List.getElem?_append_right (Nat.le_refl _), Nat.sub_self]; rfl
  rw [List.getElem?_zipIdx] at h
  cases q : rows[done.length]? with
  | none => rw [q] at h; cases h
  | some y =>
    rw [q] at h
    have h : some (y, 0 + done.length) = some x := h
    injection h with h
    subst h
    exact ⟨rfl, Nat.zero_add _⟩
theorem below_mono {cs : List Nat} {x y : Nat} (h : x ≤ y) : below cs x ≤ below cs y := by
  unfold below
  induction cs with
  | nil => exact Nat.le_refl _
  | cons c cs ih =>
    rw [List.filter_cons, List.filter_cons]
    by_cases h1 : c < x
    · rw [if_pos (decide_eq_true h1), if_pos (decide_eq_true (show c < y by omega)), List.length_cons, List.length_cons]; omega
    · rw [if_neg (by rw [decide_eq_true_iff]; exact h1)]
      split
      · rw [List.length_cons]; omega
      · exact ih
/-- the last of a list that isn't empty -/
def lst (f : Nat) : List Nat → Nat
  | [] => f
  | x :: xs => lst x xs
theorem lst_app (f x : Nat) : ∀ xs : List Nat, lst f (xs ++ [x]) = x
  | [] => rfl
  | y :: ys => lst_app y x ys
theorem lst_eq (f : Nat) : ∀ xs : List Nat, ∃ ks, f :: xs = ks ++ [lst f xs]
  | [] => ⟨[], rfl⟩
  | x :: xs => by obtain ⟨ks, e⟩ := lst_eq x xs; exact ⟨f :: ks, by show f :: (x :: xs) = f :: (ks ++ [lst x xs]); rw [← e]⟩
theorem at_lst (f : Nat) (xs : List Nat) : atI (nD f :: xs.map nD) (-1) = some (nD (lst f xs)) := by
  obtain ⟨ks, e⟩ := lst_eq f xs
  rw [← List.map_cons, e, List.map_append]
  exact atI_last _ _
theorem up_head {f : Nat} {xs : List Nat} (u : Up (f :: xs)) {x : Nat} (h : x ∈ f :: xs) : f ≤ x := by
  rcases List.mem_cons.mp h with e | h
  · rw [e]; exact Nat.le_refl _
  · exact Nat.le_of_lt ((List.pairwise_cons.mp u).1 x h)
theorem up_last {f : Nat} {xs : List Nat} (u : Up (f :: xs)) {x : Nat} (h : x ∈ f :: xs) : x ≤ lst f xs := by
  obtain ⟨ks, e⟩ := lst_eq f xs
  rw [e] at h u
  rcases List.mem_append.mp h with h | h
  · exact Nat.le_of_lt ((List.pairwise_append.mp u).2.2 x h _ List.mem_cons_self)
  · rw [List.mem_singleton.mp h]; exact Nat.le_refl _
theorem le_nD (a b : Nat) (P : Bool → Prop) : cmpR .le (nD a) (nD b) P = P (decide (a ≤ b)) := by
  show P (decide ((a : Int) ≤ (b : Int))) = _
  congr 1
  exact decide_eq_decide.mpr Int.ofNat_le
section
variable {L : Lk} {tb : List (String × Def)} {k : Nat}
def Lk.BetR (L : Lk) (ds : List D) (C : CM) (P : D → CM → Prop) : Prop := ∃ (a s : Addr) (rows : List Nat) (f : Nat) (few : List Nat) (as : List (Nat × Nat)), ds = [.ref a, .lst (rows.map nD), .lst ((f :: few).map nD), .lst (((odds rows).map fun r => fbl L.R r (f :: few)).map nD)] ∧ L.St a s as C ∧ Up rows ∧ (∀ r ∈ rows, r < L.n) ∧ Up (f :: few) ∧ (∀ x ∈ f :: few, x < L.m) ∧ TM L.R L.n L.m ∧ as.length + 2 * (f :: few).length + 2 < sizeLine ∧ rows.length < 1000000 ∧ few.length < 1000000 ∧
  ∀ as' C', L.St a s as' C' → L.Af s (2 * (f :: few).length) as C as' C' → P (.lst ((rows.map fun r => fbl L.R r (f :: few)).map nD)) C'
theorem sp_between (hb : Sp tb "first_best" (k + 4) L.BestR) (h : tb.lookup "between" = some ibetween) : Sp tb "between" (k + 5) L.BetR :=
  sp_mk h fun n hnn ds C P ex ⟨a, s, rows, f, few, as, e, st, ur, hr, uf, hf, tm, hl, hz, hz2, kk⟩ => by
    subst e
    refine ⟨rfl, ?_⟩
    generalize hw : (fun r => fbl L.R r (f :: few)) = w at kk ⊢
    have w0 : ∀ r, fbl L.R r (f :: few) = w r := fun r => by rw [← hw]
    generalize hsm : ((odds rows).map w) = sm
    have wf : ∀ r, f ≤ w r ∧ w r ≤ lst f few := fun r => by
      have := (fbl_FB (R := L.R) (r := r) uf (List.cons_ne_nil _ _)).1
      rw [← w0 r]
      exact ⟨up_head uf this, up_last uf this⟩
    simp_all_arith! [ibetween, enumD_map]
    refine for_m (fun p : Nat × Nat => D.tup [.int ((p.2 : Nat) : Int), nD p.1]) [4, 5, 6, 7, 8] (fun done ys C' => ∃ as1 b x5 x6 x7 x8, ys = [some (.own (((rows.take done.length).map w).map nD)), x5, x6, x7, x8] ∧ L.St a s as1 C' ∧ L.Af s (2 * below (f :: few) b) as C as1 C' ∧
      (done.length % 2 = 0 → b ≤ lst f ((rows.take done.length).map w)) ∧ (done.length % 2 = 1 → ∀ r, rows[done.length]? = some r → b ≤ w r)) [some (.own []), none, none, none, none] rfl
      ⟨as, 0, none, none, none, none, rfl, st, .refl, fun _ => Nat.zero_le _, fun h => absurd h (by decide)⟩ (fun done x rest ys C' e ⟨as1, b, x5, x6, x7, x8, hy, st1, af, i0, i1⟩ nx knx => ?_) fun ys C' ⟨as1, b, x5, x6, x7, x8, hy, st1, af, i0, i1⟩ => ?_
    · subst hy
      obtain ⟨hx1, hx2⟩ := zip_at e
      obtain ⟨r, i⟩ := x
      have hx2 : i = done.length := hx2
      have hx1 : rows[done.length]? = some r := hx1
      have hil : done.length < rows.length := (List.getElem?_eq_some_iff.mp hx1).1
      have htk : rows.take (done ++ [(r, i)]).length = rows.take done.length ++ [r] := by
        rw [List.length_append, List.length_singleton, List.take_succ, hx1]; rfl
      have hmt : ((rows.take (done ++ [(r, i)]).length).map w).map nD = ((rows.take done.length).map w).map nD ++ [nD (w r)] := by
        rw [htk, List.map_append, List.map_append]; rfl
      have hfl : (((rows.take done.length).map w).map nD).length < sizeLine := by
        rw [List.length_map, List.length_map, List.length_take]; show _ < 2 ^ 24; omega
      have hrn : r < L.n := hr r (List.mem_of_getElem? hx1)
      have hm2 : ((i : Nat) : Int) % 2 = ((i % 2 : Nat) : Int) := by omega
      have hd2 : ((i : Nat) : Int) / 2 = ((i / 2 : Nat) : Int) := by omega
      have hsl : sm.length = rows.length / 2 := by rw [← hsm, List.length_map, odds_len]
      have cd : CDiv ((i : Nat) : Int) 2 := ⟨by decide, by decide⟩
      by_cases q : i % 2 = 1
      · have hs2 : sm[i / 2]? = some (w r) := by
          rw [← hsm, List.getElem?_map, odds_at, show 2 * (i / 2) + 1 = done.length by omega, hx1]; rfl
        simp_all_arith! [show ((i : Nat) : Int) % 2 = 1 by omega, hd2, at_nD hs2]
        refine ⟨cd, by rw [List.length_take]; omega, ?_⟩
        rw [← hmt]
        refine knx [_, _, _, _, _] _ ⟨as1, b, _, _, _, _, rfl, st1, af, fun _ => ?_, fun hh => ?_⟩
        · rw [htk, List.map_append]
          show b ≤ lst f (((rows.take done.length).map w) ++ [w r])
          rw [lst_app]
          exact i1 (by omega) r hx1
        · rw [List.length_append, List.length_singleton] at hh; omega
      · have q0 : i % 2 = 0 := by omega
        obtain ⟨high, hh1, hh2, hh3, hh4⟩ : ∃ high, (sm ++ [lst f few])[i / 2]? = some high ∧ w r ≤ high ∧ (∀ r', rows[done.length + 1]? = some r' → high = w r') ∧ f ≤ high := by
          by_cases hlt : i / 2 < sm.length
          · have hi1 : i + 1 < rows.length := by omega
            have g : rows[done.length + 1]? = some rows[done.length + 1] := List.getElem?_eq_getElem (by omega)
            have hs2 : sm[i / 2]? = some (w rows[done.length + 1]) := by
              rw [← hsm, List.getElem?_map, odds_at, show 2 * (i / 2) + 1 = done.length + 1 by omega, g]; rfl
            refine ⟨_, by rw [List.getElem?_append_left hlt]; exact hs2, ?_, fun r' hr' => by rw [g] at hr'; rw [Option.some.inj hr'], (wf _).1⟩
            rw [← w0, ← w0]
            exact fbl_up tm uf hf (List.cons_ne_nil _ _) (Nat.le_of_lt (up_get ur hx1 g (by omega))) (hr _ (List.getElem_mem _))
          · have hi2 : i / 2 = sm.length := by omega
            refine ⟨lst f few, by rw [hi2, List.getElem?_append_right (Nat.le_refl _), Nat.sub_self]; rfl, (wf r).2, fun r' hr' => ?_, by have := wf r; omega⟩
            have := (List.getElem?_eq_some_iff.mp hr').1
            omega
        have hlow : lst f ((rows.take done.length).map w) ≤ w r := by
          by_cases hz0 : done.length = 0
          · rw [hz0]; exact (wf r).1
          · have g : rows[done.length - 1]? = some rows[done.length - 1] := List.getElem?_eq_getElem (by omega)
            have ht : rows.take done.length = rows.take (done.length - 1) ++ [rows[done.length - 1]] := by
              have := List.take_succ (l := rows) (i := done.length - 1)
              rw [show done.length - 1 + 1 = done.length by omega, g] at this
              exact this
            rw [ht, List.map_append]
            show lst f (_ ++ [w rows[done.length - 1]]) ≤ _
            rw [lst_app, ← w0, ← w0]
            exact fbl_up tm uf hf (List.cons_ne_nil _ _) (Nat.le_of_lt (up_get ur g hx1 (by omega))) hrn
        generalize hlo : lst f ((rows.take done.length).map w) = low at hlow i0
        obtain ⟨m1, m2⟩ := mid_fbl (R := L.R) (r := r) (lo := low) (hi := high) uf (List.cons_ne_nil _ _) (by rw [w0]; exact hlow) (by rw [w0]; exact hh2)
        have m3 := mid_len (cs := f :: few) (lo := low) (hi := high) uf (by omega)
        have hbl := below_mono (cs := f :: few) (i0 (by omega))
        have hbl2 := below_le (f :: few) high
        have al := at_lst f ((rows.take done.length).map w)
        rw [hlo] at al
        have ah : atI (sm.map nD ++ [nD (lst f few)]) ((i / 2 : Nat) : Int) = some (nD high) := by
          have := at_nD hh1
          rw [List.map_append] at this; exact this
        have af0 := at_lst f few
        have hlm : (((rows.take done.length).map w).map nD).length + 1 ≤ sizeLine := hfl
        have hml : (f :: few).length = few.length + 1 := rfl
        have hsz : (sm.map nD).length + 1 ≤ sizeLine := by rw [List.length_map, hsl]; show _ ≤ 2 ^ 24; omega
        simp_all_arith! [show ¬ ((i : Nat) : Int) % 2 = 1 by omega]
        refine ⟨_, atI_0 _ _, by rw [List.length_take]; omega, _, al, ?_⟩
        simp_all_arith! [af0, ah, hd2]
        refine ⟨by omega, cd, ?_⟩
        simp_all_arith! []
        refine comp_filterL (xs := f :: few) (fun c => decide (low ≤ c ∧ c ≤ high)) nD nD (by show few.length + 1 ≤ 2 ^ 24; omega) (fun c hc K hK => ?_) ?_
        · by_cases c1 : low ≤ c
          · by_cases c2 : c ≤ high
            · rw [if_pos (decide_eq_true ⟨c1, c2⟩)] at hK
              simp_all_arith! [le_nD, c1, c2]
              exact hK
            · rw [if_neg (by rw [decide_eq_true_iff]; exact fun z => c2 z.2)] at hK
              simp_all_arith! [le_nD, c1, c2]
              exact hK
          · rw [if_neg (by rw [decide_eq_true_iff]; exact fun z => c1 z.1)] at hK
            simp_all_arith! [le_nD, c1]
            exact hK
        · simp_all_arith! []
          show Gm tb n "first_best" [.ref a, nD r, .lst ((mid (f :: few) low high).map nD)] C' _ ex
          have mm : ∀ x ∈ mid (f :: few) low high, x ∈ f :: few := fun x hx => (List.mem_filter.mp hx).1
          rw [w0 r] at m2
          generalize mid (f :: few) low high = md at m1 m2 m3 mm ⊢
          cases md with
          | nil => exact absurd rfl m1
          | cons y ys =>
            rw [List.length_cons] at m3
            have hl1 := af.len
            refine hb n hnn _ _ _ _ ⟨a, s, r, y, ys, as1, rfl, st1, hrn, fun x hx => hf x (mm x hx), by omega, fun as2 C2 st2 af2 => ?_⟩
            have m4 : fb L.R r y ys = w r := m2
            rw [m4]
            refine ⟨by rw [List.length_take]; omega, ?_⟩
            simp_all_arith! []
            rw [← hmt]
            refine knx [_, _, _, _, _] _ ⟨as2, high, _, _, _, _, rfl, st2, af.trans af2 (by omega), fun hh => ?_, fun hh r' hr' => ?_⟩
            · rw [List.length_append, List.length_singleton] at hh; omega
            · rw [List.length_append, List.length_singleton] at hr'
              exact Nat.le_of_eq (hh3 r' hr')
    · subst hy
      have hzl := congrArg List.length (show rows.zipIdx = rows.zipIdx from rfl)
      rw [List.length_zipIdx] at hzl
      simp_all_arith! []
      refine ⟨_, sub_refl _, ?_⟩
      have := kk as1 C' st1 (af.trans .refl (i := 2 * (f :: few).length) (k := _) (j := 0) (by have := below_le (f :: few) b; omega))
      rw [List.length_zipIdx, List.take_of_length_le (Nat.le_refl _)]
      exact this
end
end M61.LK

set_option Elab.async false
set_option linter.all false
set_option autoImplicit false
set_option maxRecDepth 100000
/-! P74: best of, lookers made, least by. -/
namespace M61.LK
open PySem PySem.Spec PyProof.Rows L2
local macro_rules
  | `(tactic| simp_arith! [$ls,*] $[$loc:location]?) => `(tactic| try simp only [wipeR_cons, wipeR_nil, eq_self, denE, denT, denEs, denO, denC, denI, bindT_nm, bindT_tp, bindT_tl, bindTs_nil, bindTs_cons, varD_0, varD_s, varM_own0, varM_dat0, varM_s, varO_0, varO_s, varL_own0, varL_ref0, varL_s, sz, cp1, cp2, cp3, cp4, cp5, cp6, cp7, cp8, cp9, cp10, cp11, cp12, cp15, cp18, add_i, add_t, add_l, add_s, add_b, sub_b, sub_i, mul_i, mul_t, mul_sgn, mul_l, fdiv_i, mod_i, pow_i, shl_i, eq_r, ne_r, inn_t, nin_t, inn_l, nin_l, lt_r, lt_tt, le_r, gt_r, ge_r, is_n, isn_n, is_b, isn_b, isNon_n, isNon_i, isNon_t, isNon_l, isNon_b, isNon_s, tru_n, tru_b, tru_i, tru_t, tru_l, ix_t, ix_l, ix_c, ix_r, cellAt_l, cellL_l, lstD_l, lstD_r, sqD_t, sqD_l, sl_t, sl_l, sl_c, sl_r, rev_t, rev_l, len_t, len_l, len_c, len_r, tup_t, tup_l, tup_r, sum_t, sum_l, sum_r, min_t, min_l, max_t, max_l, min_2, max_2, min_3, repr_r, str_ri, abs_i, int_i, int_b, all_l, any_l, ty_bb, ty_bi, ty_bn, ty_bt, ty_ss, ty_sn, ty_si, ty_sb, ty_ii, ty_ib, ty_in, ty_it, ty_tt, ty_tn, ty_ti, ty_tb, ty_ll, ty_lt, ty_is, ty_il, ty_bs, ty_blst, ty_st, ty_sl, ty_ts, ty_tl, ty_ln, ty_li, ty_lb, ty_ls, intsOf_map, boolsOf_map, pair_Cmp, int_Cmp, bl_Cmp, non_Cmp, ints_Cmp, intst_Cmp, eqv_int, eqv_bl, eqv_ints, eqv_intst, List.map_cons, List.map_nil, List.replicate_succ, List.replicate_zero, List.cons_append, List.nil_append, List.set_cons_zero, List.set_cons_succ, List.length_cons, List.length_nil, List.getElem?_cons_zero, List.getElem?_cons_succ, List.eraseIdx_cons_zero, Nat.reduceSub, Nat.reduceAdd, Nat.reduceLT, Nat.reduceLeDiff, Nat.reducePow, Nat.reduceEqDiff, Nat.reduceMul, Int.reducePow, Int.reduceToNat, Int.reduceMul, Int.reduceAdd, Int.reduceSub, Int.reduceNeg, Int.reduceLT, Int.reduceLE, Int.reduceEq, Int.reduceBEq, Int.reduceBNe, zero_add', not_true_eq_false, not_false_eq_true, Bool.true_eq_false, false_and, and_false, true_and, and_true, exists_eq_left', exists_and_left, Option.some.injEq, Cell.lst.injEq, Cell.dct.injEq, Cell.dtp.injEq, Cell.ins.injEq, if_pos_true, reduceIte, Bool.false_eq_true, decide_true, decide_false, Bool.not_true, Bool.not_false, Bool.not_eq_true', Bool.and_true, Bool.true_and, decide_eq_true_eq, decide_eq_false_iff_not, ite_self, List.isEmpty_cons, List.isEmpty_nil, ss_nil', ss_cons', s_set', s_own', s_setF', s_unp', s_par2', par2K_e, s_par3', par3K_e, s_app', s_ext', extK_e, s_exp', s_csub', csubK_e, s_dset', dsetK_e, s_capp', cappK_e, s_aug', augK_a, augK_s, s_oset', osetK_e, s_ife', s_for', s_forc', forcK_e, s_whl', s_ret', s_ret0', s_pass', s_brk', s_cnt', l_comp', l_compc', compcK_e, l_lit', l_cat', l_cato', l_rvd', l_lrv', l_ls2', l_list', l_srt', srtK_e, l_srr', srrK_e, l_lrg1', l_lrg2', lrgK_e, l_rep', repK_e, s_fset', fsetK_e, s_dpt', dptK_e, s_ndef', s_mkr', s_mkc', l_odd', oddK_e, setM_nil, setM_cons, Int.toNat_natCast, List.length_map, exists_eq_left, $ls,*] $[$loc]?)
local macro_rules
  | `(tactic| simp_all_arith! [$ls,*]) => `(tactic| ((try simp only [wipeR_cons, wipeR_nil, eq_self, denE, denT, denEs, denO, denC, denI, bindT_nm, bindT_tp, bindT_tl, bindTs_nil, bindTs_cons, varD_0, varD_s, varM_own0, varM_dat0, varM_s, varO_0, varO_s, varL_own0, varL_ref0, varL_s, sz, cp1, cp2, cp3, cp4, cp5, cp6, cp7, cp8, cp9, cp10, cp11, cp12, cp15, cp18, add_i, add_t, add_l, add_s, add_b, sub_b, sub_i, mul_i, mul_t, mul_sgn, mul_l, fdiv_i, mod_i, pow_i, shl_i, eq_r, ne_r, inn_t, nin_t, inn_l, nin_l, lt_r, lt_tt, le_r, gt_r, ge_r, is_n, isn_n, is_b, isn_b, isNon_n, isNon_i, isNon_t, isNon_l, isNon_b, isNon_s, tru_n, tru_b, tru_i, tru_t, tru_l, ix_t, ix_l, ix_c, ix_r, cellAt_l, cellL_l, lstD_l, lstD_r, sqD_t, sqD_l, sl_t, sl_l, sl_c, sl_r, rev_t, rev_l, len_t, len_l, len_c, len_r, tup_t, tup_l, tup_r, sum_t, sum_l, sum_r, min_t, min_l, max_t, max_l, min_2, max_2, min_3, repr_r, str_ri, abs_i, int_i, int_b, all_l, any_l, ty_bb, ty_bi, ty_bn, ty_bt, ty_ss, ty_sn, ty_si, ty_sb, ty_ii, ty_ib, ty_in, ty_it, ty_tt, ty_tn, ty_ti, ty_tb, ty_ll, ty_lt, ty_is, ty_il, ty_bs, ty_blst, ty_st, ty_sl, ty_ts, ty_tl, ty_ln, ty_li, ty_lb, ty_ls, intsOf_map, boolsOf_map, pair_Cmp, int_Cmp, bl_Cmp, non_Cmp, ints_Cmp, intst_Cmp, eqv_int, eqv_bl, eqv_ints, eqv_intst, List.map_cons, List.map_nil, List.replicate_succ, List.replicate_zero, List.cons_append, List.nil_append, List.set_cons_zero, List.set_cons_succ, List.length_cons, List.length_nil, List.getElem?_cons_zero, List.getElem?_cons_succ, List.eraseIdx_cons_zero, Nat.reduceSub, Nat.reduceAdd, Nat.reduceLT, Nat.reduceLeDiff, Nat.reducePow, Nat.reduceEqDiff, Nat.reduceMul, Int.reducePow, Int.reduceToNat, Int.reduceMul, Int.reduceAdd, Int.reduceSub, Int.reduceNeg, Int.reduceLT, Int.reduceLE, Int.reduceEq, Int.reduceBEq, Int.reduceBNe, zero_add', not_true_eq_false, not_false_eq_true, Bool.true_eq_false, false_and, and_false, true_and, and_true, exists_eq_left', exists_and_left, Option.some.injEq, Cell.lst.injEq, Cell.dct.injEq, Cell.dtp.injEq, Cell.ins.injEq, if_pos_true, reduceIte, Bool.false_eq_true, decide_true, decide_false, Bool.not_true, Bool.not_false, Bool.not_eq_true', Bool.and_true, Bool.true_and, decide_eq_true_eq, decide_eq_false_iff_not, ite_self, List.isEmpty_cons, List.isEmpty_nil, ss_nil', ss_cons', s_set', s_own', s_setF', s_unp', s_par2', par2K_e, s_par3', par3K_e, s_app', s_ext', extK_e, s_exp', s_csub', csubK_e, s_dset', dsetK_e, s_capp', cappK_e, s_aug', augK_a, augK_s, s_oset', osetK_e, s_ife', s_for', s_forc', forcK_e, s_whl', s_ret', s_ret0', s_pass', s_brk', s_cnt', l_comp', l_compc', compcK_e, l_lit', l_cat', l_cato', l_rvd', l_lrv', l_ls2', l_list', l_srt', srtK_e, l_srr', srrK_e, l_lrg1', l_lrg2', lrgK_e, l_rep', repK_e, s_fset', fsetK_e, s_dpt', dptK_e, s_ndef', s_mkr', s_mkc', l_odd', oddK_e, setM_nil, setM_cons, Int.toNat_natCast, List.length_map, exists_eq_left, $ls,*]); (repeat ((with_reducible (first | refine blk_of ?_ | refine turn_of ?_ | refine tst_of ?_)); (try simp only [wipeR_cons, wipeR_nil, eq_self, denE, denT, denEs, denO, denC, denI, bindT_nm, bindT_tp, bindT_tl, bindTs_nil, bindTs_cons, varD_0, varD_s, varM_own0, varM_dat0, varM_s, varO_0, varO_s, varL_own0, varL_ref0, varL_s, sz, cp1, cp2, cp3, cp4, cp5, cp6, cp7, cp8, cp9, cp10, cp11, cp12, cp15, cp18, add_i, add_t, add_l, add_s, add_b, sub_b, sub_i, mul_i, mul_t, mul_sgn, mul_l, fdiv_i, mod_i, pow_i, shl_i, eq_r, ne_r, inn_t, nin_t, inn_l, nin_l, lt_r, lt_tt, le_r, gt_r, ge_r, is_n, isn_n, is_b, isn_b, isNon_n, isNon_i, isNon_t, isNon_l, isNon_b, isNon_s, tru_n, tru_b, tru_i, tru_t, tru_l, ix_t, ix_l, ix_c, ix_r, cellAt_l, cellL_l, lstD_l, lstD_r, sqD_t, sqD_l, sl_t, sl_l, sl_c, sl_r, rev_t, rev_l, len_t, len_l, len_c, len_r, tup_t, tup_l, tup_r, sum_t, sum_l, sum_r, min_t, min_l, max_t, max_l, min_2, max_2, min_3, repr_r, str_ri, abs_i, int_i, int_b, all_l, any_l, ty_bb, ty_bi, ty_bn, ty_bt, ty_ss, ty_sn, ty_si, ty_sb, ty_ii, ty_ib, ty_in, ty_it, ty_tt, ty_tn, ty_ti, ty_tb, ty_ll, ty_lt, ty_is, ty_il, ty_bs, ty_blst, ty_st, ty_sl, ty_ts, ty_tl, ty_ln, ty_li, ty_lb, ty_ls, intsOf_map, boolsOf_map, pair_Cmp, int_Cmp, bl_Cmp, non_Cmp, ints_Cmp, intst_Cmp, eqv_int, eqv_bl, eqv_ints, eqv_intst, List.map_cons, List.map_nil, List.replicate_succ, List.replicate_zero, List.cons_append, List.nil_append, List.set_cons_zero, List.set_cons_succ, List.length_cons, List.length_nil, List.getElem?_cons_zero, List.getElem?_cons_succ, List.eraseIdx_cons_zero, Nat.reduceSub, Nat.reduceAdd, Nat.reduceLT, Nat.reduceLeDiff, Nat.reducePow, Nat.reduceEqDiff, Nat.reduceMul, Int.reducePow, Int.reduceToNat, Int.reduceMul, Int.reduceAdd, Int.reduceSub, Int.reduceNeg, Int.reduceLT, Int.reduceLE, Int.reduceEq, Int.reduceBEq, Int.reduceBNe, zero_add', not_true_eq_false, not_false_eq_true, Bool.true_eq_false, false_and, and_false, true_and, and_true, exists_eq_left', exists_and_left, Option.some.injEq, Cell.lst.injEq, Cell.dct.injEq, Cell.dtp.injEq, Cell.ins.injEq, if_pos_true, reduceIte, Bool.false_eq_true, decide_true, decide_false, Bool.not_true, Bool.not_false, Bool.not_eq_true', Bool.and_true, Bool.true_and, decide_eq_true_eq, decide_eq_false_iff_not, ite_self, List.isEmpty_cons, List.isEmpty_nil, ss_nil', ss_cons', s_set', s_own', s_setF', s_unp', s_par2', par2K_e, s_par3', par3K_e, s_app', s_ext', extK_e, s_exp', s_csub', csubK_e, s_dset', dsetK_e, s_capp', cappK_e, s_aug', augK_a, augK_s, s_oset', osetK_e, s_ife', s_for', s_forc', forcK_e, s_whl', s_ret', s_ret0', s_pass', s_brk', s_cnt', l_comp', l_compc', compcK_e, l_lit', l_cat', l_cato', l_rvd', l_lrv', l_ls2', l_list', l_srt', srtK_e, l_srr', srrK_e, l_lrg1', l_lrg2', lrgK_e, l_rep', repK_e, s_fset', fsetK_e, s_dpt', dptK_e, s_ndef', s_mkr', s_mkc', l_odd', oddK_e, setM_nil, setM_cons, Int.toNat_natCast, List.length_map, exists_eq_left, $ls,*])))))
def ibest_of : Def := ⟨3, 4,
  (.cons (.ife (.ceq (.var 1)) (.cons (.ret (.frz (.lit .nil)))
  .nil) .nil)
  (.cons (.set 3 (.call "reduced" (.cons (.var 0) (.cons (.var 1) (.cons (.var 2) .nil)))))
  (.cons (.ret (.call "between" (.cons (.var 0) (.cons (.var 1) (.cons (.var 3) (.cons (.call "best_of" (.cons (.var 0) (.cons (.frz (.odd (.var 1))) (.cons (.var 3) .nil)))) .nil))))))
  .nil)))⟩
def iLooker : Def := ⟨3, 3,
  (.cons (.mkc "Looker") .nil)⟩
def ileast_by : Def := ⟨3, 6,
  (.cons (.set 3 (.make "Looker" (.cons (.var 0) (.cons (.var 1) (.cons (.var 2) .nil)))))
  (.cons (.set 4 (.call "best_of" (.cons (.var 3) (.cons (.frz (.lrg1 (.blt .len (.cons (.var 1) .nil)))) (.cons (.frz (.lrg1 (.fld "Looker" "columns" (.var 3)))) .nil)))))
  (.cons (.ife (.cmp .eq (.var 2) (.str "last")) (.cons (.setF 4 (.comp [5] (.bin .sub (.bin .sub (.fld "Looker" "columns" (.var 3)) (.int 1)) (.var 5)) (.nm 5) (.seq (.rev (.var 4))) .no))
  .nil) .nil)
  (.cons (.ret (.blt .tuple (.cons (.var 4) .nil)))
  .nil))))⟩
def iLooker_init : Def := ⟨4, 4,
  (.cons (.fset "Looker" "look" (.var 0) (.var 1))
  (.cons (.fset "Looker" "stretches" (.var 0) (.var 2))
  (.cons (.fset "Looker" "is_about" (.var 0) (.cmp .eq (.var 3) (.str "last")))
  (.cons (.fset "Looker" "columns" (.var 0) (.bin .add (.ix (.ix (.var 2) (.neg (.int 1))) (.int 1)) (.int 1)))
  (.cons (.fset "Looker" "seen" (.var 0) .dnt)
  .nil)))))⟩
section
variable {L : Lk} {tb : List (String × Def)} {k : Nat}
def Lk.BoR (L : Lk) (d : Nat) (ds : List D) (C : CM) (P : D → CM → Prop) : Prop := ∃ (a s : Addr) (rows cols : List Nat) (as : List (Nat × Nat)), ds = [.ref a, .lst (rows.map nD), .lst (cols.map nD)] ∧ rows.length < 2 ^ d ∧ L.St a s as C ∧ Up rows ∧ (∀ r ∈ rows, r < L.n) ∧ Up cols ∧ (∀ c ∈ cols, c < L.m) ∧ cols ≠ [] ∧ TM L.R L.n L.m ∧ as.length + 4 * cols.length + 8 * rows.length + 8 < sizeLine ∧ rows.length < 1000000 ∧ cols.length < 1000000 ∧
  ∀ as' C', L.St a s as' C' → L.Af s (4 * cols.length + 8 * rows.length) as C as' C' → P (.lst ((rows.map fun r => fbl L.R r cols).map nD)) C'
theorem sp_best (hb : Sp tb "Looker.is_beaten" (k + 3) L.BeatR) (h1 : tb.lookup "reduced" = some ireduced) (h2 : tb.lookup "first_best" = some ifirst_best) (h3 : tb.lookup "between" = some ibetween) (h4 : tb.lookup "best_of" = some ibest_of) : ∀ d, Sp tb "best_of" (k + 6 + d) (L.BoR d)
  | 0 => sp_mk (k := k + 5) h4 fun n hnn ds C P ex ⟨a, s, rows, cols, as, e, hd, st, ur, hr, uc, hc, nc, tm, hl, hz, hz2, kk⟩ => by
    subst e
    have e0 : rows = [] := List.eq_nil_of_length_eq_zero (by omega)
    subst e0
    refine ⟨rfl, ?_⟩
    have := kk as C st .refl
    simp_all_arith! [ibest_of]
    refine ⟨nD_Cmp [], ?_⟩
    simp_all_arith! []
    exact ⟨C, sub_refl _, this⟩
  | d + 1 => sp_mk (k := k + 6 + d) h4 fun n hnn ds C P ex ⟨a, s, rows, cols, as, e, hd, st, ur, hr, uc, hc, nc, tm, hl, hz, hz2, kk⟩ => by
    subst e
    refine ⟨rfl, ?_⟩
    by_cases e0 : rows = []
    · subst e0
      have := kk as C st .refl
      simp_all_arith! [ibest_of]
      refine ⟨nD_Cmp [], ?_⟩
      simp_all_arith! []
      exact ⟨C, sub_refl _, this⟩
    · have hne : (rows.map nD).isEmpty = false := by cases rows with | nil => exact absurd rfl e0 | cons _ _ => rfl
      simp_all_arith! [ibest_of]
      refine ⟨nD_Cmp rows, ?_⟩
      simp_all_arith! [hne]
      refine sp_red hb h1 n (by omega) _ _ _ _ ⟨a, s, rows, cols, as, rfl, st, ur, hr, e0, uc, hc, nc, tm, by omega, fun kept as1 C1 red st1 af1 => ?_⟩
      have hk0 := red.ne e0 nc
      have hk1 := red.len
      have hk2 := red.sub.length_le
      have hl1 := af1.len
      have uk := uc.sublist red.sub
      have hfin : ∀ r ∈ rows, fbl L.R r kept = fbl L.R r cols := fun r hr => red.fin uc nc hr
      have ol := odds_len rows
      simp_all_arith! [oddD_map]
      refine sp_best hb h1 h2 h3 h4 d n (by omega) _ _ _ _ ⟨a, s, odds rows, kept, as1, rfl, by rw [Nat.pow_succ] at hd; omega, st1, ur.sublist (odds_sub rows), fun r hq => hr r ((odds_sub rows).subset hq), uk, fun c hq => hc c (red.sub.subset hq), hk0, tm, by omega, by omega, by omega, fun as2 C2 st2 af2 => ?_⟩
      have hl2 := af2.len
      cases kept with
      | nil => exact absurd rfl hk0
      | cons f few =>
        refine sp_between (sp_first hb h2) h3 n (by omega) _ _ _ _ ⟨a, s, rows, f, few, as2, rfl, st2, ur, hr, uk, fun c hq => hc c (red.sub.subset hq), tm, by omega, hz, by rw [List.length_cons] at hk1; omega, fun as3 C3 st3 af3 => ?_⟩
        simp_all_arith! []
        have e1 : (rows.map fun r => fbl L.R r (f :: few)) = rows.map fun r => fbl L.R r cols := List.map_congr_left hfin
        rw [e1]
        refine ⟨C3, sub_refl _, kk as3 C3 st3 ((af1.trans af2 (Nat.le_refl _)).trans af3 ?_)⟩
        omega
/-! ### lookers made -/
def sideD (ab : Bool) : D := .str (Str.ofString (if ab = true then "last" else "first"))
theorem side_Cmp (ab : Bool) : (sideD ab).Cmp := by cases ab <;> exact cmp_of rfl (Nat.zero_le _) (by decide +kernel)
theorem last_Cmp : (D.str (Str.ofString "last")).Cmp := side_Cmp true
theorem side_eqv (ab : Bool) : (sideD ab).eqv (.str (Str.ofString "last")) = ab := by cases ab <;> decide
theorem str_last {n : Nat} {lo hi : Nat → Nat} (h : 1 ≤ n) : atI ((List.range n).map fun r => D.tup [.int (lo r : Nat), .int (hi r : Nat)]) (-1) = some (.tup [.int (lo (n - 1) : Nat), .int (hi (n - 1) : Nat)]) := by
  obtain ⟨m, rfl⟩ : ∃ m, n = m + 1 := ⟨n - 1, by omega⟩
  rw [List.range_succ, List.map_append]
  exact atI_last _ _
def Lk.InitR (L : Lk) (ds : List D) (C : CM) (P : D → CM → Prop) : Prop := ∃ a, ds = [.ref a, L.look, strD L.n L.lo L.hi, sideD L.ab] ∧ C a = some (.ins "Looker" []) ∧ 1 ≤ L.n ∧ L.hi (L.n - 1) + 1 = L.m ∧
  ∀ s C', C' a = some (.ins "Looker" (L.flds s)) → C' s = some (.dtp []) → s ≠ a → C s = none → (∀ b, b ≠ a → b ≠ s → C' b = C b) → P .non C'
theorem put1 (d : D) : fldPut "look" d [] = [("look", d)] := rfl
theorem put2 (x d : D) : fldPut "stretches" d [("look", x)] = [("look", x), ("stretches", d)] := rfl
theorem put3 (x y d : D) : fldPut "is_about" d [("look", x), ("stretches", y)] = [("look", x), ("stretches", y), ("is_about", d)] := rfl
theorem put4 (x y z d : D) : fldPut "columns" d [("look", x), ("stretches", y), ("is_about", z)] = [("look", x), ("stretches", y), ("is_about", z), ("columns", d)] := rfl
theorem put5 (x y z u d : D) : fldPut "seen" d [("look", x), ("stretches", y), ("is_about", z), ("columns", u)] = [("look", x), ("stretches", y), ("is_about", z), ("columns", u), ("seen", d)] := rfl
theorem sp_init (h : tb.lookup "Looker.__init__" = some iLooker_init) : Sp tb "Looker.__init__" 1 L.InitR :=
  sp_mk h fun n hnn ds C P ex ⟨a, e, ha, hn, hm, kk⟩ => by
    subst e
    refine ⟨rfl, ?_⟩
    have c1 := side_Cmp L.ab
    simp_all_arith! [iLooker_init, ha, put1, put2, put3, put4, put5, setC_same, setC_set, side_eqv, strD, str_last hn]
    refine ⟨c1, last_Cmp, ?_⟩
    simp_all_arith! [ha, put1, put2, put3, put4, put5, setC_same, setC_set, side_eqv, strD, str_last hn, atI_1]
    intro s hs
    have hsa : s ≠ a := fun e => by rw [e, setC_same] at hs; cases hs
    rw [setC_ne hsa] at hs
    simp_all_arith! [setC_ne hsa.symm, setC_same, put5, List.length_cons]
    refine ⟨_, sub_refl _, kk s _ ?_ ?_ hsa hs fun b h1 h2 => by rw [setC_ne h1, setC_ne h2, setC_ne h1]⟩
    · rw [setC_same]
      unfold Lk.flds strD
      rw [← hm]; rfl
    · rw [setC_ne hsa, setC_same]
def Lk.MakeR (L : Lk) (ds : List D) (C : CM) (P : D → CM → Prop) : Prop := ds = [L.look, strD L.n L.lo L.hi, sideD L.ab] ∧ 1 ≤ L.n ∧ L.hi (L.n - 1) + 1 = L.m ∧
  ∀ a s C', C' a = some (.ins "Looker" (L.flds s)) → C' s = some (.dtp []) → s ≠ a → C a = none → C s = none → (∀ b, b ≠ a → b ≠ s → C' b = C b) → P (.ref a) C'
theorem sp_make (hi : Sp tb "Looker.__init__" 1 L.InitR) (h : tb.lookup "Looker" = some iLooker) : Sp tb "Looker" 2 L.MakeR :=
  sp_mk h fun n hnn ds C P ex ⟨e, hn, hm, kk⟩ => by
    subst e
    refine ⟨rfl, ?_⟩
    simp_all_arith! [iLooker]
    refine ⟨_, rfl, fun a ha => ?_⟩
    refine hi n hnn _ _ _ _ ⟨a, rfl, setC_same, hn, hm, fun s C' h1 h2 h3 h4 h5 => ⟨rfl, C', sub_refl _, kk a s C' h1 h2 h3 ha ?_ fun b q1 q2 => ?_⟩⟩
    · rw [setC_ne h3] at h4; exact h4
    · rw [h5 b q1 q2, setC_ne q1]
/-! ### the places of least numbers -/
theorem rev_range {α : Type} (n : Nat) (f : Nat → α) : ((List.range n).map f).reverse = (List.range n).map fun r => f (n - 1 - r) := by
  refine List.ext_getElem (by simp) fun i h1 h2 => ?_
  rw [List.getElem_reverse]
  simp
def Lk.place (L : Lk) (r : Nat) : Nat := if L.ab = true then L.m - 1 - fbl L.R (L.n - 1 - r) (List.range L.m) else fbl L.R r (List.range L.m)
theorem up_range (n : Nat) : Up (List.range n) := List.pairwise_lt_range
theorem range_nD (n : Nat) : rangeD 0 1 n = (List.range n).map nD := rangeD_map n
theorem fbl_lt {R : Rk} {r m : Nat} (h : 1 ≤ m) : fbl R r (List.range m) < m := List.mem_range.mp (fbl_FB (R := R) (r := r) (up_range m) (fun e => by have := congrArg List.length e; rw [List.length_range] at this; have : m = 0 := this; omega)).1
def Lk.LeastR (L : Lk) (ds : List D) (C : CM) (P : D → CM → Prop) : Prop := ds = [L.look, strD L.n L.lo L.hi, sideD L.ab] ∧ L.W [] C ∧ TM L.R L.n L.m ∧
  ∀ as' C', L.W as' C' → as'.Nodup → (∀ p ∈ as', L.S p.1 p.2) → as'.length ≤ 4 * L.m + 8 * L.n → (∀ b, C b ≠ none → ¬ L.Z b → C' b = C b) → P (.tup ((List.range L.n).map fun r => nD (L.place r))) C'
theorem sp_least {d : Nat} (ok : L.Ok tb k) (hd : L.n < 2 ^ d) (hi : Sp tb "Looker" 2 L.MakeR) (hb : Sp tb "best_of" (k + 6 + d) (L.BoR d)) (h : tb.lookup "least_by" = some ileast_by) : Sp tb "least_by" (k + 7 + d) L.LeastR :=
  Sp.mono (sp_mk (k := k + 6 + d) h fun n hnn ds C P ex ⟨e, hw, tm, kk⟩ => by
    subst e
    have hn2 := ok.hn2
    have hm2 := ok.hm2
    have hn := ok.hn
    have hm := ok.hm
    have l16 : sizeLine = 2 ^ 24 := rfl
    refine ⟨rfl, ?_⟩
    simp_all_arith! [ileast_by]
    refine hi n (by omega) _ _ _ _ ⟨rfl, hn, hm, fun a s C1 ha hs hsa na ns old => ?_⟩
    have za : ¬ L.Z a := fun z => ok.live _ _ _ hw z na
    have zs : ¬ L.Z s := fun z => ok.live _ _ _ hw z ns
    have st : L.St a s [] C1 := ⟨ha, hs, ok.loc _ _ _ hw fun b hb => old b (fun e => za (e ▸ hb)) fun e => zs (e ▸ hb), za, zs, hsa.symm, List.nodup_nil, fun p hp => by simp at hp⟩
    have lr : (List.range L.n).length = L.n := List.length_range
    have r1 : RgOk 0 ((L.n : Nat) : Int) := RgOk.of_le (by decide) (by omega) (by decide) (by omega)
    have r2 : RgOk 0 ((L.m : Nat) : Int) := RgOk.of_le (by decide) (by omega) (by decide) (by omega)
    simp_all_arith! [strD, lr]
    refine ⟨r1, ?_⟩
    simp_all_arith! [ha, fl_col]
    refine ⟨r2, ?_⟩
    simp_all_arith! [Int.sub_zero, Int.toNat_natCast, range_nD]
    refine hb n (by omega) _ _ _ _ ⟨a, s, List.range L.n, List.range L.m, [], rfl, by rw [List.length_range]; exact hd, st, up_range _, fun r hr => List.mem_range.mp hr, up_range _, fun c hc => List.mem_range.mp hc, fun e => by have := congrArg List.length e; rw [List.length_range] at this; have : L.m = 0 := this; omega, tm, by rw [List.length_range, List.length_range, List.length_nil]; omega, by rw [List.length_range]; omega, by rw [List.length_range]; omega, fun as2 C2 st2 af2 => ?_⟩
    have hl2 := af2.len
    rw [List.length_range, List.length_range, List.length_nil] at hl2
    have fin := kk as2 C2 st2.w st2.nd st2.inS (by omega) fun b hb hz => by
      have h1 : b ≠ a := fun e => hb (e ▸ na)
      have h2 : b ≠ s := fun e => hb (e ▸ ns)
      rw [af2.old b h2 hz, old b h1 h2]
    have ha2 := st2.ha
    have c1 := side_Cmp L.ab
    simp_all_arith! []
    refine ⟨c1, last_Cmp, ?_⟩
    rw [side_eqv]
    cases hab : L.ab with
    | true =>
      rw [if_pos rfl]
      simp_all_arith! []
      rw [← List.map_reverse]
      refine comp_mapL nD (fun c => nD (L.m - 1 - c)) (by rw [List.length_reverse, List.length_map, List.length_range]; omega) (fun c hc K hK => ?_) ?_
      · have hcm : c < L.m := by
          obtain ⟨r, _, e⟩ := List.mem_map.mp (List.mem_reverse.mp hc)
          rw [← e]; exact fbl_lt (by omega)
        unfold nD
        simp_all_arith! [ha2, fl_col]
        have e : (L.m : Int) - 1 - (c : Int) = ((L.m - 1 - c : Nat) : Int) := by omega
        rw [e]; exact hK
      · simp_all_arith! []
        refine ⟨C2, sub_refl _, ?_⟩
        rw [rev_range, List.map_map]
        have e : ((List.range L.n).map fun r => nD (L.place r)) = (List.range L.n).map ((fun c => nD (L.m - 1 - c)) ∘ fun r => fbl L.R (L.n - 1 - r) (List.range L.m)) := by
          refine List.map_congr_left fun r _ => ?_
          show nD (L.place r) = nD _
          unfold Lk.place
          rw [if_pos hab]
        rw [← e]; exact fin
    | false =>
      rw [if_neg (by decide)]
      simp_all_arith! []
      refine ⟨C2, sub_refl _, ?_⟩
      rw [List.map_map]
      have e : ((List.range L.n).map fun r => nD (L.place r)) = (List.range L.n).map (nD ∘ fun r => fbl L.R r (List.range L.m)) := by
        refine List.map_congr_left fun r _ => ?_
        show nD (L.place r) = nD _
        unfold Lk.place
        rw [if_neg (by rw [hab]; decide)]
      rw [← e]; exact fin) (by omega)
end
end M61.LK

set_option Elab.async false
set_option linter.all false
set_option autoImplicit false
set_option maxRecDepth 100000
/-! P75: rows that bend up; rows joined (no program in sight). -/
namespace M61.JN
open PySem PySem.Spec PyProof.Rows L2
open M61.LK (Lk plt nD fbl FB fbl_FB fbl_eq Up kle TM bt bt_t bt_f)
def pairs (xs : List Int) : List (Int × Int) := xs.dropLast.zip (xs.drop 1)
def stepsL (xs : List Int) : List Int := (pairs xs).map fun p => p.2 - p.1
def up (xs : List Int) : Bool := ((pairs (stepsL xs)).map fun p => decide (p.1 ≤ p.2)).all id
theorem pairs_len (xs : List Int) : (pairs xs).length ≤ xs.length := by
  unfold pairs; rw [List.length_zip, List.length_dropLast]; omega
theorem pairs_cc (x y : Int) (r : List Int) : pairs (x :: y :: r) = (x, y) :: pairs (y :: r) := by
  unfold pairs
  rw [List.dropLast_cons_of_ne_nil (List.cons_ne_nil y r)]
  rfl
theorem pairs_1 (x : Int) : pairs [x] = [] := rfl
def adj (ys : List Int) : Bool := ((pairs ys).map fun p => decide (p.1 ≤ p.2)).all id
theorem adj_cc (x y : Int) (r : List Int) : adj (x :: y :: r) = (decide (x ≤ y) && adj (y :: r)) := by unfold adj; rw [pairs_cc]; rfl
theorem adj_sort : ∀ ys : List Int, adj ys = true → sortI ys = ys
  | [], _ => rfl
  | [x], _ => rfl
  | x :: y :: r, h => by
    rw [adj_cc, Bool.and_eq_true, decide_eq_true_eq] at h
    show insI x (sortI (y :: r)) = _
    rw [adj_sort (y :: r) h.2]
    show (if x ≤ y then _ else _) = _
    rw [if_pos h.1]
theorem adj_ins (x : Int) : ∀ ys : List Int, adj ys = true → adj (insI x ys) = true
  | [], _ => rfl
  | [y], _ => by
    show adj (if x ≤ y then [x, y] else y :: insI x []) = true
    split
    · rename_i q; rw [adj_cc, decide_eq_true q]; rfl
    · show adj [y, x] = true
      rw [adj_cc, decide_eq_true (by omega)]; rfl
  | y :: z :: r, h => by
    have h0 := h
    rw [adj_cc, Bool.and_eq_true, decide_eq_true_eq] at h
    show adj (if x ≤ y then x :: y :: z :: r else y :: insI x (z :: r)) = true
    split
    · rename_i q
      rw [adj_cc, h0, decide_eq_true q]; rfl
    · rename_i q
      have i := adj_ins x (z :: r) h.2
      have e : insI x (z :: r) = if x ≤ z then x :: z :: r else z :: insI x r := rfl
      rw [e] at i ⊢
      split
      · rename_i w
        rw [if_pos w] at i
        rw [adj_cc, i, decide_eq_true (by omega)]; rfl
      · rename_i w
        rw [if_neg w] at i
        rw [adj_cc, i, decide_eq_true h.1]; rfl
theorem adj_sorted : ∀ ys : List Int, adj (sortI ys) = true
  | [] => rfl
  | x :: r => adj_ins x _ (adj_sorted r)
theorem up_sorted (xs : List Int) : decide (stepsL xs = sortI (stepsL xs)) = up xs := by
  show _ = adj (stepsL xs)
  cases h : adj (stepsL xs) with
  | true => exact decide_eq_true (adj_sort _ h).symm
  | false =>
    refine decide_eq_false fun e => ?_
    have := adj_sorted (stepsL xs)
    rw [← e, h] at this
    cases this
theorem steps_cc (x y : Int) (r : List Int) : stepsL (x :: y :: r) = (y - x) :: stepsL (y :: r) := by unfold stepsL; rw [pairs_cc]; rfl
theorem up_ccc (x y z : Int) (r : List Int) : up (x :: y :: z :: r) = (decide (y - x ≤ z - y) && up (y :: z :: r)) := by
  show adj _ = (_ && adj _)
  rw [steps_cc, steps_cc, adj_cc]
def at0 (xs : List Int) (i : Nat) : Int := (xs[i]?).getD 0
theorem up_iff : ∀ xs : List Int, up xs = true ↔ ∀ i, i + 2 < xs.length → at0 xs (i + 1) - at0 xs i ≤ at0 xs (i + 2) - at0 xs (i + 1)
  | [] => ⟨fun _ i h => by simp at h, fun _ => rfl⟩
  | [x] => ⟨fun _ i h => by simp at h, fun _ => rfl⟩
  | [x, y] => ⟨fun _ i h => by simp only [List.length_cons, List.length_nil] at h; omega, fun _ => rfl⟩
  | x :: y :: z :: r => by
    rw [up_ccc, Bool.and_eq_true, decide_eq_true_eq, up_iff (y :: z :: r)]
    constructor
    · intro ⟨h1, h2⟩ i h
      cases i with
      | zero => exact h1
      | succ i => exact h2 i (by simp only [List.length_cons] at h ⊢; omega)
    · intro h
      exact ⟨h 0 (by simp only [List.length_cons]; omega), fun i q => h (i + 1) (by simp only [List.length_cons] at q ⊢; omega)⟩
theorem up_eq {xs ys : List Int} (h : up xs = true ↔ up ys = true) : up xs = up ys := by
  cases h1 : up xs <;> cases h2 : up ys <;> simp_all
theorem at_rev (xs : List Int) (i : Nat) (h : i < xs.length) : at0 xs.reverse i = at0 xs (xs.length - 1 - i) := by
  unfold at0; rw [List.getElem?_reverse h]
theorem up_rev1 (xs : List Int) (h : up xs = true) : up xs.reverse = true := by
  rw [up_iff] at h ⊢
  intro i q
  rw [List.length_reverse] at q
  rw [at_rev xs i (by omega), at_rev xs (i + 1) (by omega), at_rev xs (i + 2) (by omega)]
  have := h (xs.length - 1 - (i + 2)) (by omega)
  have e1 : xs.length - 1 - (i + 2) + 1 = xs.length - 1 - (i + 1) := by omega
  have e2 : xs.length - 1 - (i + 2) + 2 = xs.length - 1 - i := by omega
  rw [e1, e2] at this
  omega
theorem up_rev (xs : List Int) : up xs.reverse = up xs := up_eq ⟨fun h => by have := up_rev1 _ h; rwa [List.reverse_reverse] at this, up_rev1 xs⟩
theorem at_map (xs : List Int) (c : Int) (i : Nat) (h : i < xs.length) : at0 (xs.map fun x => x + c) i = at0 xs i + c := by
  unfold at0; rw [List.getElem?_map, List.getElem?_eq_getElem h]; rfl
theorem up_shift (xs : List Int) (c : Int) : up (xs.map fun x => x + c) = up xs := by
  refine up_eq ?_
  rw [up_iff, up_iff, List.length_map]
  constructor
  · intro h i q
    have := h i q
    rw [at_map xs c i (by omega), at_map xs c (i + 1) (by omega), at_map xs c (i + 2) (by omega)] at this
    omega
  · intro h i q
    have := h i q
    rw [at_map xs c i (by omega), at_map xs c (i + 1) (by omega), at_map xs c (i + 2) (by omega)]
    omega
theorem at_take (xs : List Int) (m i : Nat) (h : i < m) : at0 (xs.take m) i = at0 xs i := by
  unfold at0; rw [List.getElem?_take_of_lt h]
theorem up_take (xs : List Int) (m : Nat) (h : up xs = true) : up (xs.take m) = true := by
  rw [up_iff] at h ⊢
  intro i q
  rw [List.length_take] at q
  rw [at_take _ _ _ (by omega), at_take _ _ _ (by omega), at_take _ _ _ (by omega)]
  exact h i (by omega)

/-- steps that rise -/
theorem up_slope {xs : List Int} (h : up xs = true) : ∀ (d i : Nat), i + d + 1 < xs.length → at0 xs (i + 1) - at0 xs i ≤ at0 xs (i + d + 1) - at0 xs (i + d)
  | 0, i, _ => Int.le_refl _
  | d + 1, i, q => by
    have a := up_slope h d i (by omega)
    have b := (up_iff xs).mp h (i + d) (by omega)
    rw [show i + (d + 1) + 1 = i + d + 2 by omega, show i + (d + 1) = i + d + 1 by omega]
    omega
theorem up_conv {xs : List Int} (h : up xs = true) (p e : Nat) : ∀ d : Nat, p + d + e < xs.length → at0 xs (p + d) + at0 xs (p + e) ≤ at0 xs p + at0 xs (p + d + e)
  | 0, _ => by rw [Nat.add_zero]; exact Int.le_refl _
  | d + 1, q => by
    have a := up_conv h p e d (by omega)
    have b := up_slope h e (p + d) (by omega)
    rw [show p + (d + 1) = p + d + 1 by omega, show p + d + 1 + e = p + d + e + 1 by omega]
    omega
/-! ### looks that bend are totally monotone -/
def dst (lo hi c : Nat) : Int := if ((c : Nat) : Int) - (hi : Nat) > ((lo : Nat) : Int) - (c : Nat) then ((c : Nat) : Int) - (hi : Nat) else ((lo : Nat) : Int) - (c : Nat)
theorem dst_is (lo hi c : Nat) : (lo : Int) - (c : Int) ≤ dst lo hi c ∧ (c : Int) - (hi : Int) ≤ dst lo hi c ∧ (dst lo hi c = (lo : Int) - (c : Int) ∨ dst lo hi c = (c : Int) - (hi : Int)) := by
  unfold dst; split <;> omega
theorem rk_in {L : Lk} {r c : Nat} (h : L.lo r ≤ c ∧ c ≤ L.hi r) : L.rk0 r c = (0, L.fv r c) := if_pos h
theorem rk_out {L : Lk} {r c : Nat} (h : ¬ (L.lo r ≤ c ∧ c ≤ L.hi r)) : L.rk0 r c = (1, dst (L.lo r) (L.hi r) c) := if_neg h
theorem tm_of {L : Lk} (hab : L.ab = false) (lh : ∀ r, r < L.n → L.lo r ≤ L.hi r) (l1 : ∀ r r', r < r' → r' < L.n → L.lo r ≤ L.lo r') (l2 : ∀ r r', r < r' → r' < L.n → L.hi r ≤ L.hi r')
    (bend : ∀ r r' c c', r < r' → r' < L.n → c < c' → L.lo r' ≤ c → c' ≤ L.hi r → L.fv r c + L.fv r' c' ≤ L.fv r c' + L.fv r' c) : TM L.R L.n L.m := by
  intro r r' c c' hr hn hc hm hb
  have e : ∀ r c, L.R r c = L.rk0 r c := fun r c => if_neg (by rw [hab]; decide)
  rw [bt_t, e, e] at hb ⊢
  have a1 := l1 r r' hr hn
  have a2 := l2 r r' hr hn
  have a3 := lh r (by omega)
  have a4 := lh r' hn
  have bd := bend r r' c c' hr hn hc
  have d1 := dst_is (L.lo r) (L.hi r) c
  have d2 := dst_is (L.lo r) (L.hi r) c'
  have d3 := dst_is (L.lo r') (L.hi r') c
  have d4 := dst_is (L.lo r') (L.hi r') c'
  by_cases c1 : L.lo r ≤ c ∧ c ≤ L.hi r <;> by_cases c2 : L.lo r ≤ c' ∧ c' ≤ L.hi r <;> by_cases c3 : L.lo r' ≤ c ∧ c ≤ L.hi r' <;> by_cases c4 : L.lo r' ≤ c' ∧ c' ≤ L.hi r' <;>
    (first | rw [rk_in c1] at hb | rw [rk_out c1] at hb) <;> (first | rw [rk_in c2] at hb | rw [rk_out c2] at hb) <;> (first | rw [rk_in c3] | rw [rk_out c3]) <;> (first | rw [rk_in c4] | rw [rk_out c4]) <;> dsimp only at hb ⊢ <;> clear bend e l1 l2 lh <;> (try have bd' := bd (by omega) (by omega)) <;> omega
/-- the place found is the first least -/
theorem place_is {L : Lk} (hab : L.ab = false) {r : Nat} (hm : L.hi r < L.m) (lh : L.lo r ≤ L.hi r) : L.lo r ≤ L.place r ∧ L.place r ≤ L.hi r ∧ ∀ x, L.lo r ≤ x → x ≤ L.hi r → L.fv r (L.place r) < L.fv r x ∨ (L.fv r (L.place r) = L.fv r x ∧ L.place r ≤ x) := by
  have e : ∀ c, L.R r c = L.rk0 r c := fun c => if_neg (by rw [hab]; decide)
  have f : FB L.R r (List.range L.m) (L.place r) := by
    have : L.place r = fbl L.R r (List.range L.m) := if_neg (by rw [hab]; decide)
    rw [this]
    exact fbl_FB (LK.up_range _) fun e => by have := congrArg List.length e; rw [List.length_range] at this; have : L.m = 0 := this; omega
  generalize L.place r = p at f ⊢
  have key : L.lo r ≤ p ∧ p ≤ L.hi r := by
    have h := f.2 (L.lo r) (List.mem_range.mpr (by omega))
    unfold kle at h
    rw [e, e] at h
    have e1 : L.rk0 r (L.lo r) = (0, L.fv r (L.lo r)) := if_pos ⟨Nat.le_refl _, lh⟩
    rw [e1] at h
    by_cases c1 : L.lo r ≤ p ∧ p ≤ L.hi r
    · exact c1
    · rw [rk_out c1] at h
      dsimp only at h; omega
  refine ⟨key.1, key.2, fun x h1 h2 => ?_⟩
  have h := f.2 x (List.mem_range.mpr (by omega))
  unfold kle at h
  rw [e, e] at h
  have e1 : L.rk0 r x = (0, L.fv r x) := if_pos ⟨h1, h2⟩
  have e2 : L.rk0 r p = (0, L.fv r p) := if_pos key
  rw [e1, e2] at h
  dsimp only at h
  omega
/-! ### rows joined -/
def loJ (b k : Nat) : Nat := k + 1 - b
def hiJ (a k : Nat) : Nat := min (a - 1) k
def fvJ (one other : List Int) (k i : Nat) : Int := at0 one i + at0 other (k - i)
/-- the look of rows joined -/
def JL (one other : List Int) (look : D) : Lk where
  look := look
  n := one.length + other.length - 1
  m := one.length
  lo := loJ other.length
  hi := hiJ one.length
  ab := false
  fv := fvJ one other
  Z := fun _ => False
  W := fun _ _ => True
/-- the first of the least -/
def fstJ (one other : List Int) (k : Nat) : Nat := (JL one other .non).place k
/-- the least -/
def sumJ (one other : List Int) (k : Nat) : Int := fvJ one other k (fstJ one other k)
theorem place_J (one other : List Int) (look : D) (k : Nat) : (JL one other look).place k = fstJ one other k := rfl
section
variable {one other : List Int} {k : Nat}
structure IsF (one other : List Int) (k p : Nat) : Prop where
  lo : loJ other.length k ≤ p
  hi : p ≤ hiJ one.length k
  le : ∀ x, loJ other.length k ≤ x → x ≤ hiJ one.length k → fvJ one other k p < fvJ one other k x ∨ (fvJ one other k p = fvJ one other k x ∧ p ≤ x)
theorem isF (h1 : 1 ≤ one.length) (h2 : 1 ≤ other.length) (hk : k < one.length + other.length - 1) : IsF one other k (fstJ one other k) := by
  obtain ⟨a, b, c⟩ := place_is (L := JL one other .non) (r := k) rfl (by show min (one.length - 1) k < one.length; omega) (by show k + 1 - other.length ≤ min (one.length - 1) k; omega)
  exact ⟨a, b, c⟩
theorem IsF.uniq {p q : Nat} (h : IsF one other k p) (g : IsF one other k q) : p = q := by
  have a := h.le q g.lo g.hi
  have b := g.le p h.lo h.hi
  omega
theorem tm_J (h1 : 1 ≤ one.length) (h2 : 1 ≤ other.length) (hu : up other = true) (look : D) : TM (JL one other look).R (JL one other look).n (JL one other look).m := by
  refine tm_of rfl (fun r hr => ?_) (fun r r' hr hn => ?_) (fun r r' hr hn => ?_) (fun r r' c c' hr hn hc h3 h4 => ?_)
  · have hr : r < one.length + other.length - 1 := hr
    show r + 1 - other.length ≤ min (one.length - 1) r; omega
  · show r + 1 - other.length ≤ r' + 1 - other.length; omega
  · show min (one.length - 1) r ≤ min (one.length - 1) r'; omega
  · have h3 : r' + 1 - other.length ≤ c := h3
    have h4 : c' ≤ min (one.length - 1) r := h4
    have := up_conv hu (r - c') (r' - r) (c' - c) (by omega)
    rw [show r - c' + (c' - c) = r - c by omega, show r - c' + (r' - r) = r' - c' by omega, show r - c + (r' - r) = r' - c by omega] at this
    show at0 one c + at0 other (r - c) + (at0 one c' + at0 other (r' - c')) ≤ at0 one c' + at0 other (r - c') + (at0 one c + at0 other (r' - c))
    omega
end
/-- least sums, the first places that have them -/
def sumsL (one other : List Int) : List Int := (List.range (one.length + other.length - 1)).map (sumJ one other)
def fstsL (one other : List Int) : List Nat := (List.range (one.length + other.length - 1)).map (fstJ one other)
theorem sumsL_len (one other : List Int) : (sumsL one other).length = one.length + other.length - 1 := by unfold sumsL; rw [List.length_map, List.length_range]
theorem fstsL_len (one other : List Int) : (fstsL one other).length = one.length + other.length - 1 := by unfold fstsL; rw [List.length_map, List.length_range]
end M61.JN

set_option Elab.async false
set_option linter.all false
set_option autoImplicit false
set_option maxRecDepth 100000
/-! P76: rows joined, as the program does it. -/
namespace M61.JN
open PySem PySem.Spec PyProof.Rows L2
local macro_rules
  | `(tactic| simp_arith! [$ls,*] $[$loc:location]?) => `(tactic| try simp only [wipeR_cons, wipeR_nil, eq_self, denE, denT, denEs, denO, denC, denI, bindT_nm, bindT_tp, bindT_tl, bindTs_nil, bindTs_cons, varD_0, varD_s, varM_own0, varM_dat0, varM_s, varO_0, varO_s, varL_own0, varL_ref0, varL_s, sz, cp1, cp2, cp3, cp4, cp5, cp6, cp7, cp8, cp9, cp10, cp11, cp12, cp15, cp18, add_i, add_t, add_l, add_s, add_b, sub_b, sub_i, mul_i, mul_t, mul_sgn, mul_l, fdiv_i, mod_i, pow_i, shl_i, eq_r, ne_r, inn_t, nin_t, inn_l, nin_l, lt_r, lt_tt, le_r, gt_r, ge_r, is_n, isn_n, is_b, isn_b, isNon_n, isNon_i, isNon_t, isNon_l, isNon_b, isNon_s, tru_n, tru_b, tru_i, tru_t, tru_l, ix_t, ix_l, ix_c, ix_r, cellAt_l, cellL_l, lstD_l, lstD_r, sqD_t, sqD_l, sl_t, sl_l, sl_c, sl_r, rev_t, rev_l, len_t, len_l, len_c, len_r, tup_t, tup_l, tup_r, sum_t, sum_l, sum_r, min_t, min_l, max_t, max_l, min_2, max_2, min_3, repr_r, str_ri, abs_i, int_i, int_b, all_l, any_l, ty_bb, ty_bi, ty_bn, ty_bt, ty_ss, ty_sn, ty_si, ty_sb, ty_ii, ty_ib, ty_in, ty_it, ty_tt, ty_tn, ty_ti, ty_tb, ty_ll, ty_lt, ty_is, ty_il, ty_bs, ty_blst, ty_st, ty_sl, ty_ts, ty_tl, ty_ln, ty_li, ty_lb, ty_ls, intsOf_map, boolsOf_map, pair_Cmp, int_Cmp, bl_Cmp, non_Cmp, ints_Cmp, intst_Cmp, eqv_int, eqv_bl, eqv_ints, eqv_intst, List.map_cons, List.map_nil, List.replicate_succ, List.replicate_zero, List.cons_append, List.nil_append, List.set_cons_zero, List.set_cons_succ, List.length_cons, List.length_nil, List.getElem?_cons_zero, List.getElem?_cons_succ, List.eraseIdx_cons_zero, Nat.reduceSub, Nat.reduceAdd, Nat.reduceLT, Nat.reduceLeDiff, Nat.reducePow, Nat.reduceEqDiff, Nat.reduceMul, Int.reducePow, Int.reduceToNat, Int.reduceMul, Int.reduceAdd, Int.reduceSub, Int.reduceNeg, Int.reduceLT, Int.reduceLE, Int.reduceEq, Int.reduceBEq, Int.reduceBNe, zero_add', not_true_eq_false, not_false_eq_true, Bool.true_eq_false, false_and, and_false, true_and, and_true, exists_eq_left', exists_and_left, Option.some.injEq, Cell.lst.injEq, Cell.dct.injEq, Cell.dtp.injEq, Cell.ins.injEq, if_pos_true, reduceIte, Bool.false_eq_true, decide_true, decide_false, Bool.not_true, Bool.not_false, Bool.not_eq_true', Bool.and_true, Bool.true_and, decide_eq_true_eq, decide_eq_false_iff_not, ite_self, List.isEmpty_cons, List.isEmpty_nil, ss_nil', ss_cons', s_set', s_own', s_setF', s_unp', s_par2', par2K_e, s_par3', par3K_e, s_app', s_ext', extK_e, s_exp', s_csub', csubK_e, s_dset', dsetK_e, s_capp', cappK_e, s_aug', augK_a, augK_s, s_oset', osetK_e, s_ife', s_for', s_forc', forcK_e, s_whl', s_ret', s_ret0', s_pass', s_brk', s_cnt', l_comp', l_compc', compcK_e, l_lit', l_cat', l_cato', l_rvd', l_lrv', l_ls2', l_list', l_srt', srtK_e, l_srr', srrK_e, l_lrg1', l_lrg2', lrgK_e, l_rep', repK_e, s_fset', fsetK_e, s_dpt', dptK_e, s_ndef', s_mkr', s_mkc', l_odd', oddK_e, setM_nil, setM_cons, Int.toNat_natCast, List.length_map, exists_eq_left, $ls,*] $[$loc]?)
local macro_rules
  | `(tactic| simp_all_arith! [$ls,*]) => `(tactic| ((try simp only [wipeR_cons, wipeR_nil, eq_self, denE, denT, denEs, denO, denC, denI, bindT_nm, bindT_tp, bindT_tl, bindTs_nil, bindTs_cons, varD_0, varD_s, varM_own0, varM_dat0, varM_s, varO_0, varO_s, varL_own0, varL_ref0, varL_s, sz, cp1, cp2, cp3, cp4, cp5, cp6, cp7, cp8, cp9, cp10, cp11, cp12, cp15, cp18, add_i, add_t, add_l, add_s, add_b, sub_b, sub_i, mul_i, mul_t, mul_sgn, mul_l, fdiv_i, mod_i, pow_i, shl_i, eq_r, ne_r, inn_t, nin_t, inn_l, nin_l, lt_r, lt_tt, le_r, gt_r, ge_r, is_n, isn_n, is_b, isn_b, isNon_n, isNon_i, isNon_t, isNon_l, isNon_b, isNon_s, tru_n, tru_b, tru_i, tru_t, tru_l, ix_t, ix_l, ix_c, ix_r, cellAt_l, cellL_l, lstD_l, lstD_r, sqD_t, sqD_l, sl_t, sl_l, sl_c, sl_r, rev_t, rev_l, len_t, len_l, len_c, len_r, tup_t, tup_l, tup_r, sum_t, sum_l, sum_r, min_t, min_l, max_t, max_l, min_2, max_2, min_3, repr_r, str_ri, abs_i, int_i, int_b, all_l, any_l, ty_bb, ty_bi, ty_bn, ty_bt, ty_ss, ty_sn, ty_si, ty_sb, ty_ii, ty_ib, ty_in, ty_it, ty_tt, ty_tn, ty_ti, ty_tb, ty_ll, ty_lt, ty_is, ty_il, ty_bs, ty_blst, ty_st, ty_sl, ty_ts, ty_tl, ty_ln, ty_li, ty_lb, ty_ls, intsOf_map, boolsOf_map, pair_Cmp, int_Cmp, bl_Cmp, non_Cmp, ints_Cmp, intst_Cmp, eqv_int, eqv_bl, eqv_ints, eqv_intst, List.map_cons, List.map_nil, List.replicate_succ, List.replicate_zero, List.cons_append, List.nil_append, List.set_cons_zero, List.set_cons_succ, List.length_cons, List.length_nil, List.getElem?_cons_zero, List.getElem?_cons_succ, List.eraseIdx_cons_zero, Nat.reduceSub, Nat.reduceAdd, Nat.reduceLT, Nat.reduceLeDiff, Nat.reducePow, Nat.reduceEqDiff, Nat.reduceMul, Int.reducePow, Int.reduceToNat, Int.reduceMul, Int.reduceAdd, Int.reduceSub, Int.reduceNeg, Int.reduceLT, Int.reduceLE, Int.reduceEq, Int.reduceBEq, Int.reduceBNe, zero_add', not_true_eq_false, not_false_eq_true, Bool.true_eq_false, false_and, and_false, true_and, and_true, exists_eq_left', exists_and_left, Option.some.injEq, Cell.lst.injEq, Cell.dct.injEq, Cell.dtp.injEq, Cell.ins.injEq, if_pos_true, reduceIte, Bool.false_eq_true, decide_true, decide_false, Bool.not_true, Bool.not_false, Bool.not_eq_true', Bool.and_true, Bool.true_and, decide_eq_true_eq, decide_eq_false_iff_not, ite_self, List.isEmpty_cons, List.isEmpty_nil, ss_nil', ss_cons', s_set', s_own', s_setF', s_unp', s_par2', par2K_e, s_par3', par3K_e, s_app', s_ext', extK_e, s_exp', s_csub', csubK_e, s_dset', dsetK_e, s_capp', cappK_e, s_aug', augK_a, augK_s, s_oset', osetK_e, s_ife', s_for', s_forc', forcK_e, s_whl', s_ret', s_ret0', s_pass', s_brk', s_cnt', l_comp', l_compc', compcK_e, l_lit', l_cat', l_cato', l_rvd', l_lrv', l_ls2', l_list', l_srt', srtK_e, l_srr', srrK_e, l_lrg1', l_lrg2', lrgK_e, l_rep', repK_e, s_fset', fsetK_e, s_dpt', dptK_e, s_ndef', s_mkr', s_mkc', l_odd', oddK_e, setM_nil, setM_cons, Int.toNat_natCast, List.length_map, exists_eq_left, $ls,*]); (repeat ((with_reducible (first | refine blk_of ?_ | refine turn_of ?_ | refine tst_of ?_)); (try simp only [wipeR_cons, wipeR_nil, eq_self, denE, denT, denEs, denO, denC, denI, bindT_nm, bindT_tp, bindT_tl, bindTs_nil, bindTs_cons, varD_0, varD_s, varM_own0, varM_dat0, varM_s, varO_0, varO_s, varL_own0, varL_ref0, varL_s, sz, cp1, cp2, cp3, cp4, cp5, cp6, cp7, cp8, cp9, cp10, cp11, cp12, cp15, cp18, add_i, add_t, add_l, add_s, add_b, sub_b, sub_i, mul_i, mul_t, mul_sgn, mul_l, fdiv_i, mod_i, pow_i, shl_i, eq_r, ne_r, inn_t, nin_t, inn_l, nin_l, lt_r, lt_tt, le_r, gt_r, ge_r, is_n, isn_n, is_b, isn_b, isNon_n, isNon_i, isNon_t, isNon_l, isNon_b, isNon_s, tru_n, tru_b, tru_i, tru_t, tru_l, ix_t, ix_l, ix_c, ix_r, cellAt_l, cellL_l, lstD_l, lstD_r, sqD_t, sqD_l, sl_t, sl_l, sl_c, sl_r, rev_t, rev_l, len_t, len_l, len_c, len_r, tup_t, tup_l, tup_r, sum_t, sum_l, sum_r, min_t, min_l, max_t, max_l, min_2, max_2, min_3, repr_r, str_ri, abs_i, int_i, int_b, all_l, any_l, ty_bb, ty_bi, ty_bn, ty_bt, ty_ss, ty_sn, ty_si, ty_sb, ty_ii, ty_ib, ty_in, ty_it, ty_tt, ty_tn, ty_ti, ty_tb, ty_ll, ty_lt, ty_is, ty_il, ty_bs, ty_blst, ty_st, ty_sl, ty_ts, ty_tl, ty_ln, ty_li, ty_lb, ty_ls, intsOf_map, boolsOf_map, pair_Cmp, int_Cmp, bl_Cmp, non_Cmp, ints_Cmp, intst_Cmp, eqv_int, eqv_bl, eqv_ints, eqv_intst, List.map_cons, List.map_nil, List.replicate_succ, List.replicate_zero, List.cons_append, List.nil_append, List.set_cons_zero, List.set_cons_succ, List.length_cons, List.length_nil, List.getElem?_cons_zero, List.getElem?_cons_succ, List.eraseIdx_cons_zero, Nat.reduceSub, Nat.reduceAdd, Nat.reduceLT, Nat.reduceLeDiff, Nat.reducePow, Nat.reduceEqDiff, Nat.reduceMul, Int.reducePow, Int.reduceToNat, Int.reduceMul, Int.reduceAdd, Int.reduceSub, Int.reduceNeg, Int.reduceLT, Int.reduceLE, Int.reduceEq, Int.reduceBEq, Int.reduceBNe, zero_add', not_true_eq_false, not_false_eq_true, Bool.true_eq_false, false_and, and_false, true_and, and_true, exists_eq_left', exists_and_left, Option.some.injEq, Cell.lst.injEq, Cell.dct.injEq, Cell.dtp.injEq, Cell.ins.injEq, if_pos_true, reduceIte, Bool.false_eq_true, decide_true, decide_false, Bool.not_true, Bool.not_false, Bool.not_eq_true', Bool.and_true, Bool.true_and, decide_eq_true_eq, decide_eq_false_iff_not, ite_self, List.isEmpty_cons, List.isEmpty_nil, ss_nil', ss_cons', s_set', s_own', s_setF', s_unp', s_par2', par2K_e, s_par3', par3K_e, s_app', s_ext', extK_e, s_exp', s_csub', csubK_e, s_dset', dsetK_e, s_capp', cappK_e, s_aug', augK_a, augK_s, s_oset', osetK_e, s_ife', s_for', s_forc', forcK_e, s_whl', s_ret', s_ret0', s_pass', s_brk', s_cnt', l_comp', l_compc', compcK_e, l_lit', l_cat', l_cato', l_rvd', l_lrv', l_ls2', l_list', l_srt', srtK_e, l_srr', srrK_e, l_lrg1', l_lrg2', lrgK_e, l_rep', repK_e, s_fset', fsetK_e, s_dpt', dptK_e, s_ndef', s_mkr', s_mkc', l_odd', oddK_e, setM_nil, setM_cons, Int.toNat_natCast, List.length_map, exists_eq_left, $ls,*])))))
open M61.LK (Lk plt nD fbl FB fbl_FB fbl_eq Up kle TM bt bt_t bt_f strD sideD)
def ibends_up : Def := ⟨1, 6,
  (.cons (.setF 1 (.comp [2, 3] (.bin .sub (.var 3) (.var 2)) (.tp (.cons (.nm 2) (.cons (.nm 3) .nil))) (.zip (.sl (.var 0) .no (.yes (.neg (.int 1)))) (.sl (.var 0) (.yes (.int 1)) .no)) .no))
  (.cons (.ret (.blt .all (.cons (.frz (.comp [4, 5] (.cmp .le (.var 4) (.var 5)) (.tp (.cons (.nm 4) (.cons (.nm 5) .nil))) (.zip (.sl (.var 1) .no (.yes (.neg (.int 1)))) (.sl (.var 1) (.yes (.int 1)) .no)) .no)) .nil)))
  .nil))⟩
def istretch_at : Def := ⟨3, 3,
  (.cons (.ret (.tup (.cons (.blt .max2 (.cons (.int 0) (.cons (.bin .add (.bin .sub (.var 2) (.blt .len (.cons (.var 1) .nil))) (.int 1)) .nil))) (.cons (.blt .min2 (.cons (.bin .sub (.blt .len (.cons (.var 0) .nil)) (.int 1)) (.cons (.var 2) .nil))) .nil))))
  .nil)⟩
def istretches_for : Def := ⟨2, 3,
  (.cons (.ret (.blt .tuple (.cons (.frz (.comp [2] (.call "stretch_at" (.cons (.var 0) (.cons (.var 1) (.cons (.var 2) .nil)))) (.nm 2) (.rng1 (.bin .sub (.bin .add (.blt .len (.cons (.var 0) .nil)) (.blt .len (.cons (.var 1) .nil))) (.int 1))) .no)) .nil)))
  .nil)⟩
def ifirst_by_all : Def := ⟨3, 6,
  (.cons (.unp (.tp (.cons (.nm 3) (.cons (.nm 4) .nil))) (.call "stretch_at" (.cons (.var 0) (.cons (.var 1) (.cons (.var 2) .nil)))))
  (.cons (.ret (.ix (.blt .mind (.cons (.frz (.comp [5] (.tup (.cons (.bin .add (.ix (.var 0) (.var 5)) (.ix (.var 1) (.bin .sub (.var 2) (.var 5)))) (.cons (.var 5) .nil))) (.nm 5) (.rng2 (.var 3) (.bin .add (.var 4) (.int 1))) .no)) .nil)) (.int 1)))
  .nil))⟩
def ifirsts_of_in : Def := ⟨4, 4,
  (.cons (.ret (.bin .add (.ix (.var 2) (.var 1)) (.ix (.var 3) (.bin .sub (.var 0) (.var 1)))))
  .nil)⟩
def ifirsts_of : Def := ⟨2, 5,
  (.cons (.ndef 2 "firsts_of")
  (.cons (.set 3 (.call "stretches_for" (.cons (.var 0) (.cons (.var 1) .nil))))
  (.cons (.ife (.val (.call "bends_up" (.cons (.var 1) .nil))) (.cons (.ret (.callc "least_by" 2 "firsts_of" [0, 1] (.cons (.var 3) (.cons (.str "first") .nil))))
  .nil) .nil)
  (.cons (.ret (.blt .tuple (.cons (.frz (.comp [4] (.call "first_by_all" (.cons (.var 0) (.cons (.var 1) (.cons (.var 4) .nil)))) (.nm 4) (.rng1 (.blt .len (.cons (.var 3) .nil))) .no)) .nil)))
  .nil))))⟩
def ijoined : Def := ⟨2, 5,
  (.cons (.set 2 (.call "firsts_of" (.cons (.var 0) (.cons (.var 1) .nil))))
  (.cons (.ret (.tup (.cons (.blt .tuple (.cons (.frz (.comp [3, 4] (.bin .add (.ix (.var 0) (.var 4)) (.ix (.var 1) (.bin .sub (.var 3) (.var 4)))) (.tp (.cons (.nm 3) (.cons (.nm 4) .nil))) (.enum (.var 2)) .no)) .nil)) (.cons (.var 2) .nil))))
  .nil))⟩
abbrev iD (xs : List Int) : D := .tup (xs.map .int)
theorem at_int {xs : List Int} {i : Nat} (h : i < xs.length) : atI (xs.map D.int) ((i : Nat) : Int) = some (.int (at0 xs i)) := by
  rw [atI_map, atI_nat (List.getElem?_eq_getElem h)]
  unfold at0
  rw [List.getElem?_eq_getElem h]; rfl
theorem enum_range (g : Nat → D) (n : Nat) : enumD 0 ((List.range n).map g) = (List.range n).map fun k => D.tup [.int ((k : Nat) : Int), g k] := by
  rw [enumD_map]
  refine List.ext_getElem? fun i => ?_
  rw [List.getElem?_map, List.getElem?_map, List.getElem?_zipIdx]
  by_cases h : i < n
  · rw [List.getElem?_range h]
    show some (D.tup [.int ((0 + i : Nat) : Int), g i]) = _
    rw [Nat.zero_add]; rfl
  · rw [List.getElem?_eq_none (by rw [List.length_range]; omega)]; rfl
section
variable {tb : List (String × Def)}
def UpR (ds : List D) (C : CM) (P : D → CM → Prop) : Prop := ∃ xs : List Int, ds = [iD xs] ∧ xs.length ≤ 100000 ∧ P (.bl (up xs)) C
theorem sp_up (h : tb.lookup "bends_up" = some ibends_up) : Sp tb "bends_up" 1 UpR :=
  sp_mk h fun n _ ds C P ex ⟨xs, e, hl, k⟩ => by
    subst e
    have l16 : sizeLine = 2 ^ 24 := rfl
    refine ⟨rfl, ?_⟩
    simp_all_arith! [ibends_up, cutD_map, cut_first, cut_rest, zipD_map]
    refine comp_mapL (xs := pairs xs) _ (fun p => .int (p.2 - p.1)) (by have := pairs_len xs; omega) (fun p _ K kk => ?_) ?_
    · simp_all_arith! []; exact kk
    · have e1 : ((pairs xs).map fun p => D.int (p.2 - p.1)) = (stepsL xs).map .int := by unfold stepsL; rw [List.map_map]; rfl
      rw [e1]
      have hl2 : (stepsL xs).length ≤ 100000 := by unfold stepsL; rw [List.length_map]; exact Nat.le_trans (pairs_len xs) hl
      simp_all_arith! [cutD_map, cut_first, cut_rest, zipD_map]
      refine comp_mapL (xs := pairs (stepsL xs)) _ (fun p => .bl (decide (p.1 ≤ p.2))) (by have := pairs_len (stepsL xs); omega) (fun p _ K kk => ?_) ?_
      · simp_all_arith! []; exact kk
      · have e : ((pairs (stepsL xs)).map fun p => D.bl (decide (p.1 ≤ p.2))) = ((pairs (stepsL xs)).map fun p => decide (p.1 ≤ p.2)).map .bl := by rw [List.map_map]; rfl
        rw [e]
        simp_all_arith! []
        exact ⟨C, sub_refl _, k⟩
def AtR (ds : List D) (C : CM) (P : D → CM → Prop) : Prop := ∃ (one other : List Int) (k : Nat), ds = [iD one, iD other, .int ((k : Nat) : Int)] ∧ 1 ≤ one.length ∧ P (.tup [.int ((loJ other.length k : Nat) : Int), .int ((hiJ one.length k : Nat) : Int)]) C
theorem sp_at (h : tb.lookup "stretch_at" = some istretch_at) : Sp tb "stretch_at" 1 AtR :=
  sp_mk h fun n _ ds C P ex ⟨one, other, k, e, h1, kk⟩ => by
    subst e
    refine ⟨rfl, ?_⟩
    simp_all_arith! [istretch_at]
    refine ⟨C, sub_refl _, ?_⟩
    have e1 : (if (k : Int) - (other.length : Int) + 1 > 0 then (k : Int) - (other.length : Int) + 1 else 0) = ((loJ other.length k : Nat) : Int) := by
      unfold loJ; split <;> omega
    have e2 : (if (k : Int) < (one.length : Int) - 1 then (k : Int) else (one.length : Int) - 1) = ((hiJ one.length k : Nat) : Int) := by
      unfold hiJ; split <;> omega
    rw [e1, e2]
    exact kk
def ForR (ds : List D) (C : CM) (P : D → CM → Prop) : Prop := ∃ (one other : List Int), ds = [iD one, iD other] ∧ 1 ≤ one.length ∧ 1 ≤ other.length ∧ one.length + other.length ≤ 10000 ∧ P (strD (one.length + other.length - 1) (loJ other.length) (hiJ one.length)) C
theorem sp_for (ha : Sp tb "stretch_at" 1 AtR) (h : tb.lookup "stretches_for" = some istretches_for) : Sp tb "stretches_for" 2 ForR :=
  sp_mk h fun n hn ds C P ex ⟨one, other, e, h1, h2, h3, kk⟩ => by
    subst e
    refine ⟨rfl, ?_⟩
    have e0 : (one.length : Int) + (other.length : Int) - 1 = ((one.length + other.length - 1 : Nat) : Int) := by omega
    simp_all_arith! [istretches_for, e0]
    refine ⟨by omega, by omega, ?_⟩
    simp_all_arith! [Int.toNat_natCast]
    rw [rangeD_map]
    refine comp_mapL (fun k : Nat => .int ((k : Nat) : Int)) (fun k => .tup [.int ((loJ other.length k : Nat) : Int), .int ((hiJ one.length k : Nat) : Int)]) (by rw [List.length_range]; show _ ≤ 2 ^ 24; omega) (fun k _ K hK => ?_) ?_
    · simp_all_arith! []
      refine ha n hn _ _ _ _ ⟨one, other, k, rfl, h1, ?_⟩
      simp_all_arith! []
      exact hK
    · simp_all_arith! []
      exact ⟨C, sub_refl _, kk⟩
/-! ### all tried -/
def eD (p : Int × Int) : D := .tup [.int p.1, .int p.2]
theorem eD_lt (p q : Int × Int) : PySem.W.dataLt (eD p).py (eD q).py = plt p q := by
  show PySem.W.dataLt (.tuple [.int p.1, .int p.2]) (.tuple [.int q.1, .int q.2]) = _
  rw [PySem.W.dataLt_tuple]
  unfold plt
  by_cases h : p.1 = q.1
  · rw [PySem.W.dataLt_all_yes (by rfl) (by show (p.1 == q.1) = true; rw [h]; exact beq_self_eq_true _)]
    by_cases h2 : p.2 = q.2
    · rw [PySem.W.dataLt_all_yes (by rfl) (by show (p.2 == q.2) = true; rw [h2]; exact beq_self_eq_true _)]
      exact (decide_eq_false (by omega)).symm
    · rw [PySem.W.dataLt_all_no (by rfl) (by show (p.2 == q.2) = false; simpa using h2), PySem.W.dataLt_int]
      exact decide_eq_decide.mpr (by omega)
  · rw [PySem.W.dataLt_all_no (by rfl) (by show (p.1 == q.1) = false; simpa using h), PySem.W.dataLt_int]
    exact decide_eq_decide.mpr (by omega)
theorem plt_f {p q : Int × Int} : plt p q = false ↔ ¬ (p.1 < q.1 ∨ (p.1 = q.1 ∧ p.2 < q.2)) := by unfold plt; rw [decide_eq_false_iff_not]
theorem plt_t {p q : Int × Int} : plt p q = true ↔ (p.1 < q.1 ∨ (p.1 = q.1 ∧ p.2 < q.2)) := by unfold plt; rw [decide_eq_true_iff]
theorem min_pairs : ∀ (ps : List (Int × Int)) (p : Int × Int), ∃ q ∈ p :: ps, PySem.W.minD (eD p).py (D.pys (ps.map eD)) = (eD q).py ∧ ∀ r ∈ p :: ps, plt r q = false
  | [], p => ⟨p, List.mem_cons_self, rfl, fun r hr => by rw [List.mem_singleton.mp hr, plt_f]; omega⟩
  | r :: ps, p => by
    have e1 : PySem.W.minD (eD p).py (D.pys ((r :: ps).map eD)) = PySem.W.minD (if plt r p = true then (eD r).py else (eD p).py) (D.pys (ps.map eD)) := by
      rw [← eD_lt]; rfl
    cases hc : plt r p with
    | true =>
      rw [hc, if_pos rfl] at e1
      obtain ⟨q, h1, h2, h3⟩ := min_pairs ps r
      refine ⟨q, List.mem_cons_of_mem _ h1, e1.trans h2, fun x hx => ?_⟩
      rcases List.mem_cons.mp hx with rfl | hx
      · have a := h3 r List.mem_cons_self
        rw [plt_f] at a ⊢; rw [plt_t] at hc; omega
      · exact h3 x hx
    | false =>
      rw [hc, if_neg (by decide)] at e1
      obtain ⟨q, h1, h2, h3⟩ := min_pairs ps p
      refine ⟨q, ?_, e1.trans h2, fun x hx => ?_⟩
      · rcases List.mem_cons.mp h1 with rfl | h1
        · exact List.mem_cons_self
        · exact List.mem_cons_of_mem _ (List.mem_cons_of_mem _ h1)
      · rcases List.mem_cons.mp hx with rfl | hx
        · exact h3 _ List.mem_cons_self
        · rcases List.mem_cons.mp hx with rfl | hx
          · have a := h3 p List.mem_cons_self
            rw [plt_f] at a hc ⊢; omega
          · exact h3 x (List.mem_cons_of_mem _ hx)
theorem eD_alike (ps : List (Int × Int)) : PySem.W.AlikeAll (D.pys (ps.map eD)) := by
  have key : ∀ x ∈ D.pys (ps.map eD), ∃ p, x = (eD p).py := by
    induction ps with
    | nil => intro x hx; cases hx
    | cons p ps ih =>
      intro x hx
      rcases List.mem_cons.mp (show x ∈ (eD p).py :: D.pys (ps.map eD) from hx) with rfl | hx
      · exact ⟨p, rfl⟩
      · exact ih x hx
  refine ⟨fun x hx y hy => ?_, fun x hx => ?_⟩
  · obtain ⟨p, rfl⟩ := key x hx
    obtain ⟨q, rfl⟩ := key y hy
    rfl
  · obtain ⟨p, rfl⟩ := key x hx
    intro h; cases h
theorem eD_pures : ∀ ps : List (Int × Int), D.pures (ps.map eD) = true
  | [] => rfl
  | p :: ps => by
    have := eD_pures ps
    show (true && D.pures (ps.map eD)) = true
    rw [this]; rfl
theorem eD_depth : ∀ ps : List (Int × Int), PyData.depthAll (D.pys (ps.map eD)) ≤ 1
  | [] => Nat.zero_le _
  | p :: ps => by
    have := eD_depth ps
    show max (PyData.depth (eD p).py) (PyData.depthAll (D.pys (ps.map eD))) ≤ 1
    have e : PyData.depth (eD p).py = 1 := rfl
    rw [e]; omega
theorem eD_inj {p q : Int × Int} (h : (eD p).py = (eD q).py) : p = q := by
  have h : PyData.tuple [.int p.1, .int p.2] = PyData.tuple [.int q.1, .int q.2] := h
  injection h with h
  injection h with h1 h
  injection h with h2 h
  injection h1 with h1
  injection h2 with h2
  exact Prod.ext h1 h2
def AllR (ds : List D) (C : CM) (P : D → CM → Prop) : Prop := ∃ (one other : List Int) (k : Nat), ds = [iD one, iD other, .int ((k : Nat) : Int)] ∧ 1 ≤ one.length ∧ 1 ≤ other.length ∧ one.length + other.length ≤ 10000 ∧ k < one.length + other.length - 1 ∧ P (nD (fstJ one other k)) C
theorem sp_all (ha : Sp tb "stretch_at" 1 AtR) (h : tb.lookup "first_by_all" = some ifirst_by_all) : Sp tb "first_by_all" 2 AllR :=
  sp_mk h fun n hn ds C P ex ⟨one, other, k, e, h1, h2, h3, hk, kk⟩ => by
    subst e
    refine ⟨rfl, ?_⟩
    simp_all_arith! [ifirst_by_all]
    refine ha n hn _ _ _ _ ⟨one, other, k, rfl, h1, ?_⟩
    have b1 : loJ other.length k = k + 1 - other.length := rfl
    have b2 : hiJ one.length k = min (one.length - 1) k := rfl
    have hle : loJ other.length k ≤ hiJ one.length k := by omega
    have hf := isF h1 h2 hk
    generalize hlo : loJ other.length k = lo at b1 hle
    generalize hhi : hiJ one.length k = hi at b2 hle
    simp_all_arith! []
    refine ⟨⟨by omega, by omega, by omega, by omega⟩, ?_⟩
    rw [show ((hi : Int) + 1 - (lo : Int)).toNat = hi + 1 - lo by omega]
    unfold rangeD
    refine comp_mapL (fun i : Nat => D.int ((lo : Int) + (i : Int) * 1)) (fun i => eD (fvJ one other k (lo + i), ((lo + i : Nat) : Int))) (by rw [List.length_range]; show _ ≤ 2 ^ 24; omega) (fun i hi' K hK => ?_) ?_
    · have hi' := List.mem_range.mp hi'
      have e1 : (lo : Int) + (i : Int) * 1 = ((lo + i : Nat) : Int) := by omega
      have e2 : (k : Int) - ((lo + i : Nat) : Int) = ((k - (lo + i) : Nat) : Int) := by omega
      rw [e1]
      simp_all_arith! [at_int (show lo + i < one.length by omega), e2, at_int (show k - (lo + i) < other.length by omega)]
      exact hK
    · have e : ((List.range (hi + 1 - lo)).map fun i => eD (fvJ one other k (lo + i), ((lo + i : Nat) : Int))) = (((List.range (hi + 1 - lo)).map fun i => (fvJ one other k (lo + i), ((lo + i : Nat) : Int)))).map eD := by rw [List.map_map]; rfl
      rw [e]
      have hm : ∀ x, x ∈ ((List.range (hi + 1 - lo)).map fun i => (fvJ one other k (lo + i), ((lo + i : Nat) : Int))) ↔ ∃ p, lo ≤ p ∧ p ≤ hi ∧ x = (fvJ one other k p, ((p : Nat) : Int)) := fun x => by
        rw [List.mem_map]
        constructor
        · rintro ⟨i, hi', rfl⟩
          have := List.mem_range.mp hi'
          exact ⟨lo + i, by omega, by omega, rfl⟩
        · rintro ⟨p, q1, q2, rfl⟩
          exact ⟨p - lo, List.mem_range.mpr (by omega), by rw [show lo + (p - lo) = p by omega]⟩
      generalize ((List.range (hi + 1 - lo)).map fun i => (fvJ one other k (lo + i), ((lo + i : Nat) : Int))) = ps at hm
      cases ps with
      | nil =>
        have := (hm _).mpr ⟨lo, Nat.le_refl _, hle, rfl⟩
        simp at this
      | cons p ps =>
        obtain ⟨q, q1, q2, q3⟩ := min_pairs ps p
        have key : ∀ y ∈ (p :: ps).map eD, y.py = PySem.W.minD (eD p).py (D.pys (ps.map eD)) → y = eD q := fun y hy e => by
          obtain ⟨r, _, rfl⟩ := List.mem_map.mp hy
          rw [q2] at e
          rw [eD_inj e]
        obtain ⟨m, m1, m2, m3⟩ := (hm q).mp q1
        have hfm : m = fstJ one other k := IsF.uniq ⟨by rw [hlo]; exact m1, by rw [hhi]; exact m2, fun x x1 x2 => by
          rw [hlo] at x1; rw [hhi] at x2
          have := q3 _ ((hm _).mpr ⟨x, x1, x2, rfl⟩)
          rw [plt_f, m3] at this
          dsimp only at this
          omega⟩ hf
        refine ⟨eD p, ps.map eD, rfl, eD_pures (p :: ps), eD_alike (p :: ps), Nat.le_trans (eD_depth (p :: ps)) (by decide), fun y hy e => ?_⟩
        rw [key y hy e, m3]
        show itemR C (.tup [.int _, .int _]) (.int 1) _
        simp_all_arith! [atI_1]
        refine ⟨C, sub_refl _, ?_⟩
        rw [hfm]; exact kk
/-! ### by least looks -/
theorem look_ok (one other : List Int) (f : Addr) (hc : tb.lookup "firsts_of/" = some ifirsts_of_in) (h1 : 1 ≤ one.length) (h2 : 1 ≤ other.length) (h3 : one.length + other.length ≤ 10000) : (JL one other (.clo "firsts_of" f [iD one, iD other])).Ok tb 1 where
  isc := ⟨_, _, _, rfl⟩
  hn := by show 1 ≤ one.length + other.length - 1; omega
  hn2 := by show one.length + other.length - 1 ≤ 100000; omega
  hm := by show min (one.length - 1) (one.length + other.length - 1 - 1) + 1 = one.length; omega
  hm2 := by show one.length ≤ 100000; omega
  loc := fun _ _ _ _ _ => trivial
  live := fun _ _ _ _ h => h.elim
  run := fun mk f' caps e N hN r c as C hS _ _ _ P ex k => by
    have e : D.clo "firsts_of" f [iD one, iD other] = D.clo mk f' caps := e
    injection e with e1 e2 e3
    subst e1 e2 e3
    obtain ⟨q1, q2, q3⟩ := hS
    have q1 : r < one.length + other.length - 1 := q1
    have q2 : r + 1 - other.length ≤ c := q2
    have q3 : c ≤ min (one.length - 1) r := q3
    refine ⟨?_, ?_⟩
    · show (D.nocs f (one.map .int) && (D.nocs f (other.map .int) && true)) = true
      rw [nocs_ints, nocs_ints]; rfl
    · obtain ⟨n, rfl⟩ : ∃ n, N = n + 1 := ⟨N - 1, by omega⟩
      refine ⟨ifirsts_of_in, hc, fun cl => ?_⟩
      refine ⟨rfl, ?_⟩
      simp_all_arith! [ifirsts_of_in, at_int (show c < one.length by omega), show (r : Int) - (c : Int) = ((r - c : Nat) : Int) by omega, at_int (show r - c < other.length by omega)]
      refine ⟨C.drop f, sub_refl _, ?_⟩
      refine k _ trivial fun b _ => ?_
      rw [back_drop]
def FirstsR (d : Nat) (ds : List D) (C : CM) (P : D → CM → Prop) : Prop := ∃ (one other : List Int), ds = [iD one, iD other] ∧ 1 ≤ one.length ∧ 1 ≤ other.length ∧ one.length + other.length ≤ 10000 ∧ one.length + other.length ≤ 2 ^ d ∧ P (.tup ((List.range (one.length + other.length - 1)).map fun k => nD (fstJ one other k))) C
structure LkTab (tb : List (String × Def)) : Prop where
  num : tb.lookup "Looker.number_at" = some LK.iLooker_number_at
  rank : tb.lookup "Looker.rank" = some LK.iLooker_rank
  beat : tb.lookup "Looker.is_beaten" = some LK.iLooker_is_beaten
  ini : tb.lookup "Looker.__init__" = some LK.iLooker_init
  lkr : tb.lookup "Looker" = some LK.iLooker
  red : tb.lookup "reduced" = some LK.ireduced
  first : tb.lookup "first_best" = some LK.ifirst_best
  bet : tb.lookup "between" = some LK.ibetween
  best : tb.lookup "best_of" = some LK.ibest_of
  least : tb.lookup "least_by" = some LK.ileast_by
theorem LkTab.sp {k d : Nat} {L : Lk} (T : LkTab tb) (ok : L.Ok tb k) (hd : L.n < 2 ^ d) : Sp tb "least_by" (k + 7 + d) L.LeastR :=
  LK.sp_least ok hd (LK.sp_make (LK.sp_init T.ini) T.lkr) (LK.sp_best (LK.sp_beat (LK.sp_rank ok (LK.sp_num ok T.num) T.rank) T.beat) T.red T.first T.bet T.best d) T.least
theorem sp_firsts {d : Nat} (T : LkTab tb) (hc : tb.lookup "firsts_of/" = some ifirsts_of_in) (hu : Sp tb "bends_up" 1 UpR) (hf : Sp tb "stretches_for" 2 ForR) (ha : Sp tb "first_by_all" 2 AllR) (h : tb.lookup "firsts_of" = some ifirsts_of) : Sp tb "firsts_of" (d + 9) (FirstsR d) :=
  sp_mk (k := d + 8) h fun n hn ds C P ex ⟨one, other, e, h1, h2, h3, h4, kk⟩ => by
    subst e
    refine ⟨rfl, ?_⟩
    simp_all_arith! [ifirsts_of]
    intro f fr hno
    simp_all_arith! []
    refine hf n (by omega) _ _ _ _ ⟨one, other, rfl, h1, h2, h3, ?_⟩
    simp_all_arith! []
    refine hu n (by omega) _ _ _ _ ⟨other, rfl, by omega, ?_⟩
    simp_all_arith! []
    cases hup : up other with
    | true =>
      rw [if_pos rfl]
      simp_all_arith! []
      refine ⟨_, rfl, ?_, ?_, ?_⟩
      · show (D.nocs f ((List.range (one.length + other.length - 1)).map fun r => .tup [.int (loJ other.length r : Nat), .int (hiJ one.length r : Nat)]) && (true && true)) = true
        rw [nocs_map _ _ _ fun _ _ => rfl]; rfl
      · show (D.nocs f (one.map .int) && (D.nocs f (other.map .int) && true)) = true
        rw [nocs_ints, nocs_ints]; rfl
      · refine T.sp (d := d) (look_ok one other f hc h1 h2 h3) (by show one.length + other.length - 1 < 2 ^ d; omega) n (by omega) _ _ _ _ ⟨rfl, trivial, tm_J h1 h2 hup _, fun as' C' _ _ _ _ old => ⟨?_, C, fun a c e => ?_, kk⟩⟩
        · exact nocs_map f _ _ fun _ _ => rfl
        · exact drop_at ((old a (by rw [e]; exact Option.some_ne_none c) fun z => z).trans e) (fr a c e)
    | false =>
      rw [if_neg (by decide)]
      simp_all_arith! [strD, List.length_range]
      refine ⟨by omega, by omega, ?_⟩
      rw [rangeD_map]
      refine comp_mapL (fun k : Nat => .int ((k : Nat) : Int)) (fun k => nD (fstJ one other k)) (by rw [List.length_range]; show _ ≤ 2 ^ 24; omega) (fun k hk K hK => ?_) ?_
      · have hk := List.mem_range.mp hk
        simp_all_arith! []
        refine ha n (by omega) _ _ _ _ ⟨one, other, k, rfl, h1, h2, h3, hk, ?_⟩
        simp_all_arith! []
        exact hK
      · exact ⟨C, sub_refl _, kk⟩
def JoinR (d : Nat) (ds : List D) (C : CM) (P : D → CM → Prop) : Prop := ∃ (one other : List Int), ds = [iD one, iD other] ∧ 1 ≤ one.length ∧ 1 ≤ other.length ∧ one.length + other.length ≤ 10000 ∧ one.length + other.length ≤ 2 ^ d ∧ P (.tup [iD (sumsL one other), .tup ((fstsL one other).map nD)]) C
theorem sp_joined {d : Nat} (hf : Sp tb "firsts_of" (d + 9) (FirstsR d)) (h : tb.lookup "joined" = some ijoined) : Sp tb "joined" (d + 10) (JoinR d) :=
  sp_mk (k := d + 9) h fun n hn ds C P ex ⟨one, other, e, h1, h2, h3, h4, kk⟩ => by
    subst e
    refine ⟨rfl, ?_⟩
    simp_all_arith! [ijoined]
    refine hf n hn _ _ _ _ ⟨one, other, rfl, h1, h2, h3, h4, ?_⟩
    simp_all_arith! []
    rw [enum_range]
    refine comp_mapL (fun k : Nat => D.tup [.int ((k : Nat) : Int), nD (fstJ one other k)]) (fun k => .int (sumJ one other k)) (by rw [List.length_range]; show _ ≤ 2 ^ 24; omega) (fun k hk K hK => ?_) ?_
    · have hk := List.mem_range.mp hk
      have f := isF h1 h2 hk
      have f1 : k + 1 - other.length ≤ fstJ one other k := f.lo
      have f2 : fstJ one other k ≤ min (one.length - 1) k := f.hi
      unfold sumJ fvJ at hK
      generalize fstJ one other k = p at f1 f2 hK ⊢
      unfold nD
      simp_all_arith! [at_int (show p < one.length by omega), show (k : Int) - (p : Int) = ((k - p : Nat) : Int) by omega, at_int (show k - p < other.length by omega)]
      exact hK
    · simp_all_arith! []
      refine ⟨C, sub_refl _, ?_⟩
      have e1 : iD (sumsL one other) = .tup ((List.range (one.length + other.length - 1)).map fun k => D.int (sumJ one other k)) := by unfold iD sumsL; rw [List.map_map]; rfl
      have e2 : (fstsL one other).map nD = (List.range (one.length + other.length - 1)).map fun k => nD (fstJ one other k) := by unfold fstsL; rw [List.map_map]; rfl
      rw [e1, e2] at kk
      exact kk
end
end M61.JN

set_option Elab.async false
set_option linter.all false
set_option autoImplicit false
set_option maxRecDepth 100000
/-! P77: the deck of rows joined, rows drawn. -/
namespace M61.R27
open PySem PySem.Spec PyProof.Rows L2
local macro_rules
  | `(tactic| simp_arith! [$ls,*] $[$loc:location]?) => `(tactic| try simp only [wipeR_cons, wipeR_nil, eq_self, denSs, denS, denE, denT, denEs, denO, denC, denL, denI, bindT_nm, bindT_tp, bindT_tl, bindTs_nil, bindTs_cons, varD_0, varD_s, varM_own0, varM_dat0, varM_s, varO_0, varO_s, varL_own0, varL_ref0, varL_s, sz, cp1, cp2, cp3, cp4, cp5, cp6, cp7, cp8, cp9, cp10, cp11, cp12, cp15, cp18, add_i, add_t, add_l, add_s, add_b, sub_b, sub_i, mul_i, mul_t, mul_sgn, mul_l, fdiv_i, mod_i, pow_i, shl_i, eq_r, ne_r, inn_t, nin_t, inn_l, nin_l, lt_r, lt_tt, le_r, gt_r, ge_r, is_n, isn_n, is_b, isn_b, isNon_n, isNon_i, isNon_t, isNon_l, isNon_b, isNon_s, tru_n, tru_b, tru_i, tru_t, tru_l, ix_t, ix_l, ix_c, ix_r, cellAt_l, cellL_l, lstD_l, lstD_r, sqD_t, sqD_l, sl_t, sl_l, sl_c, sl_r, rev_t, rev_l, len_t, len_l, len_c, len_r, tup_t, tup_l, tup_r, sum_t, sum_l, sum_r, min_t, min_l, max_t, max_l, min_2, max_2, min_3, repr_r, str_ri, abs_i, int_i, int_b, all_l, any_l, ty_bb, ty_bi, ty_bn, ty_bt, ty_ss, ty_sn, ty_si, ty_sb, ty_ii, ty_ib, ty_in, ty_it, ty_tt, ty_tn, ty_ti, ty_tb, ty_ll, ty_lt, ty_is, ty_il, ty_bs, ty_blst, ty_st, ty_sl, ty_ts, ty_tl, ty_ln, ty_li, ty_lb, ty_ls, intsOf_map, boolsOf_map, pair_Cmp, int_Cmp, bl_Cmp, non_Cmp, ints_Cmp, intst_Cmp, eqv_int, eqv_bl, eqv_ints, eqv_intst, List.map_cons, List.map_nil, List.replicate_succ, List.replicate_zero, List.cons_append, List.nil_append, List.set_cons_zero, List.set_cons_succ, List.length_cons, List.length_nil, List.getElem?_cons_zero, List.getElem?_cons_succ, List.eraseIdx_cons_zero, Nat.reduceSub, Nat.reduceAdd, Nat.reduceLT, Nat.reduceLeDiff, Nat.reducePow, Nat.reduceEqDiff, Nat.reduceMul, Int.reducePow, Int.reduceToNat, Int.reduceMul, Int.reduceAdd, Int.reduceSub, Int.reduceNeg, Int.reduceLT, Int.reduceLE, Int.reduceEq, Int.reduceBEq, Int.reduceBNe, zero_add', not_true_eq_false, not_false_eq_true, Bool.true_eq_false, false_and, and_false, true_and, and_true, exists_eq_left', exists_and_left, Option.some.injEq, Cell.lst.injEq, Cell.dct.injEq, Cell.dtp.injEq, Cell.ins.injEq, if_pos_true, reduceIte, Bool.false_eq_true, decide_true, decide_false, Bool.not_true, Bool.not_false, Bool.not_eq_true', Bool.and_true, Bool.true_and, decide_eq_true_eq, decide_eq_false_iff_not, ite_self, List.isEmpty_cons, List.isEmpty_nil, $ls,*] $[$loc]?)
open M61.JN (iD)
def i_law_deck : Def := ⟨1, 2,
  (.cons (.set 1 (.cel (.list (.sl (.var 0) .no (.yes (.int 63))))))
  (.cons (.ret (.cel (.lit (.cons (.var 1) (.cons (.bin .add (.int 104729) (.bin .mod (.blt .sum (.cons (.var 1) .nil)) (.int 2147483587))) (.cons (.int 0) .nil))))))
  .nil))⟩
def i_law_draw : Def := ⟨2, 5,
  (.cons (.csub (.var 0) (.int 2) (.bin .add (.ix (.var 0) (.int 2)) (.int 1)))
  (.cons (.set 2 (.ix (.var 0) (.int 0)))
  (.cons (.set 3 (.ix (.var 0) (.int 1)))
  (.cons (.ife (.cne (.var 2)) (.cons (.set 3 (.cpopA (.var 2) (.int 0)))
  (.cons (.ife (.cmp .ge (.var 3) (.bin .pow (.int 10) (.int 18))) (.cons (.cins (.var 2) (.int 0) (.bin .fdiv (.var 3) (.var 1)))
  (.cons (.ret (.bin .mod (.var 3) (.var 1)))
  .nil)) .nil)
  (.cons (.set 3 (.bin .add (.var 3) (.ix (.var 0) (.int 1))))
  .nil))) .nil)
  (.cons (.set 4 (.bin .mod (.bin .add (.bin .add (.bin .mul (.bin .mod (.var 3) (.int 2147483629)) (.int 48271)) (.bin .mul (.int 7919) (.ix (.var 0) (.int 2)))) (.int 13)) (.int 2147483647)))
  (.cons (.set 4 (.bin .mod (.bin .add (.bin .add (.bin .mul (.var 4) (.var 4)) (.bin .mul (.int 69621) (.var 4))) (.ix (.var 0) (.int 2))) (.int 2147483587)))
  (.cons (.csub (.var 0) (.int 1) (.var 4))
  (.cons (.ret (.bin .mod (.bin .fdiv (.bin .mod (.bin .mul (.var 4) (.bin .add (.var 4) (.int 40692))) (.int 2147483563)) (.int 64)) (.var 1)))
  .nil))))))))⟩
def i_law_number : Def := ⟨1, 3,
  (.cons (.set 1 (.call "_law_draw" (.cons (.var 0) (.cons (.int 8) .nil))))
  (.cons (.ife (.cmp .lt (.var 1) (.int 4)) (.cons (.ret (.bin .sub (.call "_law_draw" (.cons (.var 0) (.cons (.int 7) .nil))) (.int 3)))
  .nil) .nil)
  (.cons (.ife (.cmp .lt (.var 1) (.int 6)) (.cons (.ret (.bin .sub (.call "_law_draw" (.cons (.var 0) (.cons (.int 201) .nil))) (.int 100)))
  .nil) .nil)
  (.cons (.set 2 (.bin .pow (.int 10) (.int 8)))
  (.cons (.ife (.cmp .eq (.var 1) (.int 6)) (.cons (.set 2 (.bin .add (.bin .add (.bin .mul (.call "_law_draw" (.cons (.var 0) (.cons (.bin .pow (.int 10) (.int 4)) .nil))) (.bin .pow (.int 10) (.int 4))) (.call "_law_draw" (.cons (.var 0) (.cons (.bin .pow (.int 10) (.int 4)) .nil)))) (.int 1)))
  .nil) .nil)
  (.cons (.ret (.ix (.frz (.lit (.cons (.var 2) (.cons (.bin .sub (.int 0) (.var 2)) .nil)))) (.call "_law_draw" (.cons (.var 0) (.cons (.int 2) .nil)))))
  .nil))))))⟩
def i_law_size : Def := ⟨1, 1,
  (.cons (.ife (.cmp .eq (.call "_law_draw" (.cons (.var 0) (.cons (.int 8) .nil))) (.int 5)) (.cons (.ret (.ix (.frz (.lit (.cons (.int 20) (.cons (.bin .add (.int 1) (.call "_law_draw" (.cons (.var 0) (.cons (.int 20) .nil)))) .nil)))) (.call "_law_draw" (.cons (.var 0) (.cons (.int 2) .nil)))))
  .nil) .nil)
  (.cons (.ret (.bin .add (.int 1) (.call "_law_draw" (.cons (.var 0) (.cons (.int 6) .nil)))))
  .nil))⟩
def i_law_bent_row : Def := ⟨2, 7,
  (.cons (.set 2 (.ix (.frz (.lit (.cons (.int 1) (.cons (.int 3) (.cons (.bin .pow (.int 10) (.int 6)) .nil))))) (.call "_law_draw" (.cons (.var 0) (.cons (.int 3) .nil)))))
  (.cons (.set 3 (.ix (.frz (.lit (.cons (.int 21) (.cons (.int 3) .nil)))) (.call "_law_draw" (.cons (.var 0) (.cons (.int 2) .nil)))))
  (.cons (.own 4 (.lit (.cons (.bin .mul (.bin .sub (.call "_law_draw" (.cons (.var 0) (.cons (.int 2001) .nil))) (.int 1000)) (.ix (.frz (.lit (.cons (.int 1) (.cons (.bin .pow (.int 10) (.int 5)) .nil)))) (.call "_law_draw" (.cons (.var 0) (.cons (.int 2) .nil))))) .nil)))
  (.cons (.for (.nm 5) (.seq (.frz (.srt (.frz (.comp [6] (.bin .mul (.bin .sub (.call "_law_draw" (.cons (.var 0) (.cons (.var 3) .nil))) (.bin .fdiv (.var 3) (.int 2))) (.var 2)) (.nm 6) (.rng1 (.bin .sub (.var 1) (.int 1))) .no))))) (.cons (.app 4 (.bin .add (.oix 4 (.neg (.int 1))) (.var 5)))
  .nil))
  (.cons (.ret (.blt .tuple (.cons (.mv 4) .nil)))
  .nil)))))⟩
def i_law_row : Def := ⟨3, 7,
  (.cons (.ife (.cmp .eq (.var 1) (.int 0)) (.cons (.ret (.blt .tuple (.cons (.frz (.comp [3] (.call "_law_number" (.cons (.var 0) .nil)) (.nm 3) (.rng1 (.var 2)) .no)) .nil)))
  .nil) .nil)
  (.cons (.ife (.cmp .eq (.var 1) (.int 1)) (.cons (.ret (.blt .tuple (.cons (.frz (.comp [3] (.call "_law_draw" (.cons (.var 0) (.cons (.int 3) .nil))) (.nm 3) (.rng1 (.var 2)) .no)) .nil)))
  .nil) .nil)
  (.cons (.ife (.cmp .eq (.var 1) (.int 2)) (.cons (.ret (.bin .mul (.tup (.cons (.call "_law_number" (.cons (.var 0) .nil)) .nil)) (.var 2)))
  .nil) .nil)
  (.cons (.set 4 (.call "_law_bent_row" (.cons (.var 0) (.cons (.var 2) .nil))))
  (.cons (.ife (.cmp .eq (.var 1) (.int 4)) (.cons (.set 4 (.blt .tuple (.cons (.frz (.comp [5] (.bin .sub (.int 0) (.var 5)) (.nm 5) (.seq (.var 4)) .no)) .nil)))
  .nil) .nil)
  (.cons (.ife (.cmp .eq (.var 1) (.int 5)) (.cons (.set 6 (.call "_law_draw" (.cons (.var 0) (.cons (.var 2) .nil))))
  (.cons (.set 4 (.bin .add (.bin .add (.sl (.var 4) .no (.yes (.var 6))) (.tup (.cons (.bin .add (.ix (.var 4) (.var 6)) (.ix (.frz (.lit (.cons (.int 1) (.cons (.neg (.int 1)) (.cons (.int 2) .nil))))) (.call "_law_draw" (.cons (.var 0) (.cons (.int 3) .nil))))) .nil))) (.sl (.var 4) (.yes (.bin .add (.var 6) (.int 1))) .no)))
  .nil)) .nil)
  (.cons (.ret (.var 4))
  .nil)))))))⟩
theorem draw_ok (G : Ctx) (a b : Addr) (n : Int) (C : CM) (P : D → CM → Prop) (hD : Deck a b C) (h0 : 0 < n) (h1 : n < 1073741824)
    (k : ∀ v C', 0 ≤ v → v < n → Deck a b C' → (∀ e, e ≠ a → e ≠ b → C' e = C e) → P (.int v) C') : denF G i_law_draw [.ref a, .int n] C P := by
  obtain ⟨xs, s, c, hab, ha, hb, hl⟩ := hD
  refine ⟨rfl, ?_⟩
  have hba : ¬ (b = a) := fun e => hab e.symm
  have fin : ∀ (t s' : Int) (C' : CM), C' a = some (.lst [.ref b, .int s', .int (c + 1)]) → (∃ ys : List Int, C' b = some (.lst (ys.map .int)) ∧ ys.length ≤ 63) → (∀ e, e ≠ a → e ≠ b → C' e = C e) → ∃ C'', CM.Sub C'' C' ∧ P (.int (t % n)) C'' :=
    fun t s' C' e1 ⟨ys, e2, e3⟩ e4 => ⟨C', sub_refl _, k _ _ (Int.emod_nonneg t (by omega)) (Int.emod_lt_of_pos t h0) ⟨ys, s', c + 1, hab, e1, e2, e3⟩ e4⟩
  cases xs with
  | nil =>
    simp only [List.map_nil] at hb
    simp_arith! [i_law_draw, ha, atI_2, atI_1, atI_0, ixN_31, ixN_32, hba, if_neg hba, hb]
    refine ⟨ints_Cmp [], cmul_mod _ _ _ (by decide) (by decide), cmul_l _ _ (by decide), cmul_mod _ _ _ (by decide) (by decide), cmul_l _ _ (by decide), cmul_mod _ _ _ (by decide) (by decide), ⟨by decide, by decide⟩, h0, ?_⟩
    exact fin _ _ _ (if_pos rfl) ⟨[], by rw [if_neg hba, if_neg hba]; exact hb, Nat.zero_le _⟩ (fun e h1 h2 => by rw [if_neg h1, if_neg h1])
  | cons x xs =>
    simp only [List.map_cons] at hb
    simp_arith! [i_law_draw, ha, atI_2, atI_1, atI_0, ixN_31, ixN_32, hba, if_neg hba, if_neg hab, hb, seqIx_0]
    have hs : (xs.map D.int).length < 16777216 := by
      rw [List.length_map]
      rw [List.length_cons] at hl
      omega
    rw [List.length_cons] at hl
    refine ⟨ints_Cmp (x :: xs), ?_⟩
    split
    · refine ⟨⟨h0, h1⟩, hs, h0, ?_⟩
      refine fin _ s _ (by rw [if_neg hab, if_neg hab, if_pos rfl]) ⟨(x / n) :: xs, by rw [if_pos rfl]; rfl, by rw [List.length_cons]; omega⟩ (fun e h1 h2 => by rw [if_neg h2, if_neg h2, if_neg h1])
    · refine ⟨cmul_mod _ _ _ (by decide) (by decide), cmul_l _ _ (by decide), cmul_mod _ _ _ (by decide) (by decide), cmul_l _ _ (by decide), cmul_mod _ _ _ (by decide) (by decide), ⟨by decide, by decide⟩, h0, ?_⟩
      exact fin _ _ _ (if_pos rfl) ⟨xs, by rw [if_neg hba, if_pos rfl], by omega⟩ (fun e h1 h2 => by rw [if_neg h1, if_neg h2, if_neg h1])
section
variable {tb : List (String × Def)} {n : Nat} {a b : Addr} {C : CM} {P : D → CM → Prop} {ex : ExP}
/-- the cells but the deck's are as they were -/
def Fm (a b : Addr) (C C' : CM) : Prop := ∀ e, e ≠ a → e ≠ b → C' e = C e
theorem Fm.trans {C1 C2 : CM} (h : Fm a b C C1) (q : Fm a b C1 C2) : Fm a b C C2 := fun e h1 h2 => (q e h1 h2).trans (h e h1 h2)
theorem Fm.refl : Fm a b C C := fun _ _ _ => rfl
theorem pick2 {v : Int} {α : Type} (x y : α) (h0 : 0 ≤ v) (h1 : v < 2) : ∃ z, atI [x, y] v = some z ∧ (z = x ∨ z = y) := by
  obtain ⟨z, m, _, e⟩ := atI_in (xs := [x, y]) h0 h1
  simp only [List.mem_cons, List.not_mem_nil, or_false] at m
  exact ⟨z, e, m⟩
theorem pick3 {v : Int} {α : Type} (x y w : α) (h0 : 0 ≤ v) (h1 : v < 3) : ∃ z, atI [x, y, w] v = some z ∧ (z = x ∨ z = y ∨ z = w) := by
  obtain ⟨z, m, _, e⟩ := atI_in (xs := [x, y, w]) h0 h1
  simp only [List.mem_cons, List.not_mem_nil, or_false] at m
  exact ⟨z, e, m⟩
theorem number_ok (hd : Sp tb "_law_draw" 1 DrawR) (hn : 1 ≤ n) (hD : Deck a b C) (k : ∀ v C', Deck a b C' → Fm a b C C' → P (.int v) C') : denF ⟨Gm tb n, ex⟩ i_law_number [.ref a] C P := by
  refine ⟨rfl, ?_⟩
  simp_arith! [i_law_number]
  refine use_draw hd hn hD (by decide) (by decide) fun v C1 v0 v1 hD1 f1 => ?_
  try simp_arith! []
  split
  · refine use_draw hd hn hD1 (by decide) (by decide) fun v C2 v0 v1 hD2 f2 => ?_
    try simp_arith! []
    exact ⟨C2, sub_refl _, k _ _ hD2 (Fm.trans f1 f2)⟩
  · split
    · refine use_draw hd hn hD1 (by decide) (by decide) fun v C2 v0 v1 hD2 f2 => ?_
      try simp_arith! []
      exact ⟨C2, sub_refl _, k _ _ hD2 (Fm.trans f1 f2)⟩
    · split
      · refine use_draw hd hn hD1 (by decide) (by decide) fun v C2 v0 v1 hD2 f2 => ?_
        try simp_arith! []
        refine ⟨.inr ⟨by decide, by decide⟩, ?_⟩
        refine use_draw hd hn hD2 (by decide) (by decide) fun w C3 w0 w1 hD3 f3 => ?_
        try simp_arith! []
        refine use_draw hd hn hD3 (by decide) (by decide) fun u C4 u0 u1 hD4 f4 => ?_
        try simp_arith! []
        obtain ⟨z, e, m⟩ := pick2 (D.int (v * 10000 + w + 1)) (D.int (0 - (v * 10000 + w + 1))) u0 u1
        refine ⟨z, e, C4, sub_refl _, ?_⟩
        have ff := Fm.trans (Fm.trans f1 f2) (Fm.trans f3 f4)
        rcases m with rfl | rfl
        · exact k _ _ hD4 ff
        · exact k _ _ hD4 ff
      · refine use_draw hd hn hD1 (by decide) (by decide) fun u C4 u0 u1 hD4 f4 => ?_
        try simp_arith! []
        obtain ⟨z, e, m⟩ := pick2 (D.int 100000000) (D.int (-100000000)) u0 u1
        refine ⟨z, e, C4, sub_refl _, ?_⟩
        rcases m with rfl | rfl
        · exact k _ _ hD4 (Fm.trans f1 f4)
        · exact k _ _ hD4 (Fm.trans f1 f4)

theorem size_ok (hd : Sp tb "_law_draw" 1 DrawR) (hn : 1 ≤ n) (hD : Deck a b C) (k : ∀ v C', 1 ≤ v → v ≤ 20 → Deck a b C' → Fm a b C C' → P (.int v) C') : denF ⟨Gm tb n, ex⟩ i_law_size [.ref a] C P := by
  refine ⟨rfl, ?_⟩
  simp_arith! [i_law_size]
  refine use_draw hd hn hD (by decide) (by decide) fun v C1 v0 v1 hD1 f1 => ?_
  try simp_arith! []
  split
  · refine use_draw hd hn hD1 (by decide) (by decide) fun v C2 v0 v1 hD2 f2 => ?_
    try simp_arith! []
    refine use_draw hd hn hD2 (by decide) (by decide) fun u C3 u0 u1 hD3 f3 => ?_
    try simp_arith! []
    obtain ⟨z, e, m⟩ := pick2 (D.int 20) (D.int (1 + v)) u0 u1
    refine ⟨z, e, C3, sub_refl _, ?_⟩
    rcases m with rfl | rfl
    · exact k _ _ (by omega) (by omega) hD3 (Fm.trans f1 (Fm.trans f2 f3))
    · exact k _ _ (by omega) (by omega) hD3 (Fm.trans f1 (Fm.trans f2 f3))
  · refine use_draw hd hn hD1 (by decide) (by decide) fun v C2 v0 v1 hD2 f2 => ?_
    try simp_arith! []
    exact ⟨C2, sub_refl _, k _ _ (by omega) (by omega) hD2 (Fm.trans f1 f2)⟩
theorem bent_row_ok (hd : Sp tb "_law_draw" 1 DrawR) (hn : 1 ≤ n) (hD : Deck a b C) {m : Int} (h0 : 1 ≤ m) (h1 : m ≤ 60)
    (k : ∀ (xs : List Int) C', (xs.length : Int) = m → Deck a b C' → Fm a b C C' → P (.tup (xs.map .int)) C') : denF ⟨Gm tb n, ex⟩ i_law_bent_row [.ref a, .int m] C P := by
  refine ⟨rfl, ?_⟩
  simp_arith! [i_law_bent_row]
  refine use_draw hd hn hD (by decide) (by decide) fun v C1 v0 v1 hD1 f1 => ?_
  try simp_arith! []
  obtain ⟨z, e, mz⟩ := pick3 (D.int 1) (D.int 3) (D.int 1000000) v0 v1
  refine ⟨z, e, ?_⟩
  obtain ⟨wide, rfl, hw⟩ : ∃ i : Int, z = .int i ∧ 1 ≤ i ∧ i ≤ 1000000 := by
    rcases mz with rfl | rfl | rfl
    · exact ⟨_, rfl, by decide, by decide⟩
    · exact ⟨_, rfl, by decide, by decide⟩
    · exact ⟨_, rfl, by decide, by decide⟩
  refine use_draw hd hn hD1 (by decide) (by decide) fun v C2 v0 v1 hD2 f2 => ?_
  try simp_arith! []
  obtain ⟨z, e, mz⟩ := pick2 (D.int 21) (D.int 3) v0 v1
  refine ⟨z, e, ?_⟩
  obtain ⟨few, rfl, hf⟩ : ∃ i : Int, z = .int i ∧ 3 ≤ i ∧ i ≤ 21 := by
    rcases mz with rfl | rfl
    · exact ⟨_, rfl, by decide, by decide⟩
    · exact ⟨_, rfl, by decide, by decide⟩
  refine use_draw hd hn hD2 (by decide) (by decide) fun v C3 v0 v1 hD3 f3 => ?_
  try simp_arith! []
  refine use_draw hd hn hD3 (by decide) (by decide) fun u C4 u0 u1 hD4 f4 => ?_
  try simp_arith! []
  obtain ⟨z, e, mz⟩ := pick2 (D.int 1) (D.int 100000) u0 u1
  refine ⟨z, e, ?_⟩
  obtain ⟨fac, rfl, hc⟩ : ∃ i : Int, z = .int i ∧ 1 ≤ i ∧ i ≤ 100000 := by
    rcases mz with rfl | rfl
    · exact ⟨_, rfl, by decide, by decide⟩
    · exact ⟨_, rfl, by decide, by decide⟩
  try simp_arith! []
  have f04 := Fm.trans (Fm.trans f1 f2) (Fm.trans f3 f4)
  refine ⟨cmul_l _ _ ⟨by omega, by omega⟩, by omega, by omega, ?_⟩
  refine comp_all (α := Int) (fun C' => Deck a b C' ∧ Fm a b C C') (fun _ => True) .int (by rw [rangeD_len, sz]; omega) ⟨hD4, f04⟩ (fun d _ C5 ⟨hD5, f5⟩ K kk => ?_) fun ys C6 hl _ ⟨hD6, f6⟩ => ?_
  · try simp_arith! []
    refine use_draw hd hn hD5 (by omega) (by omega) fun w C7 w0 w1 hD7 f7 => ?_
    try simp_arith! []
    refine ⟨⟨by decide, by decide⟩, .inr ⟨by omega, by omega⟩, kk _ _ trivial ⟨hD7, Fm.trans f5 f7⟩⟩
  · rw [rangeD_len] at hl
    try simp_arith! []
    have hs : (sortI ys).length = ys.length := by
      have hi : ∀ (x : Int) (r : List Int), (insI x r).length = r.length + 1 := by
        intro x r
        induction r with
        | nil => rfl
        | cons y r ih =>
          show (if x ≤ y then _ else _ : List Int).length = _
          split
          · rfl
          · rw [List.length_cons, ih, List.length_cons]
      have : ∀ r : List Int, (sortI r).length = r.length := by
        intro r
        induction r with
        | nil => rfl
        | cons x r ih => show (insI x (sortI r)).length = _; rw [hi, ih, List.length_cons]
      exact this ys
    refine for_invL .int (I := fun done ρ C' => ∃ (x5 x6 : Option Dv) (xs : List Int), ρ = [some (.dat (.ref a)), some (.dat (.int m)), some (.dat (.int wide)), some (.dat (.int few)), some (.own (xs.map .int)), x5, x6] ∧ xs.length = done.length + 1 ∧ Deck a b C' ∧ Fm a b C C')
      ⟨_, _, [(v - 1000) * fac], rfl, rfl, hD6, f6⟩ (fun done x rest ρ C7 e hI nx knx => ?_) fun ρ C7 hI => ?_
    · obtain ⟨x5, x6, xs, rfl, hx, hD7, f7⟩ := hI
      have hne : xs ≠ [] := by rintro rfl; simp at hx
      obtain ⟨z, _, _, ez⟩ := atI_end hne
      simp_arith! [atI_map, ez, Option.map_some]
      have hlen : done.length + rest.length + 1 = (sortI ys).length := by rw [e, List.length_append, List.length_cons]; omega
      refine ⟨by rw [List.length_map]; omega, knx _ _ ⟨_, _, xs ++ [z + x], by rw [List.map_append]; rfl, by rw [List.length_append, List.length_append, hx]; rfl, hD7, f7⟩⟩
    · obtain ⟨x5, x6, xs, rfl, hx, hD7, f7⟩ := hI
      try simp_arith! []
      exact ⟨C7, sub_refl _, k xs _ (by rw [hx]; omega) hD7 f7⟩

def NumR (ds : List D) (C : CM) (P : D → CM → Prop) : Prop := ∃ a b, ds = [.ref a] ∧ Deck a b C ∧ ∀ v C', Deck a b C' → Fm a b C C' → P (.int v) C'
def SizeR (ds : List D) (C : CM) (P : D → CM → Prop) : Prop := ∃ a b, ds = [.ref a] ∧ Deck a b C ∧ ∀ v C', 1 ≤ v → v ≤ 20 → Deck a b C' → Fm a b C C' → P (.int v) C'
def BentR (ds : List D) (C : CM) (P : D → CM → Prop) : Prop := ∃ a b m, ds = [.ref a, .int m] ∧ Deck a b C ∧ 1 ≤ m ∧ m ≤ 60 ∧ ∀ (xs : List Int) C', (xs.length : Int) = m → Deck a b C' → Fm a b C C' → P (.tup (xs.map .int)) C'
def RowR (ds : List D) (C : CM) (P : D → CM → Prop) : Prop := ∃ a b q m, ds = [.ref a, .int q, .int m] ∧ Deck a b C ∧ 1 ≤ m ∧ m ≤ 60 ∧ ∀ (xs : List Int) C', (xs.length : Int) = m → Deck a b C' → Fm a b C C' → P (.tup (xs.map .int)) C'
def DeckR (ds : List D) (C : CM) (P : D → CM → Prop) : Prop := ∃ ns : List Int, ds = [.scr (ns.map .int)] ∧ ns.length ≤ 63 ∧ ∀ a b C', Deck a b C' → P (.ref a) C'
theorem flat_rep (v : D) : ∀ m : Nat, (List.replicate m [v]).flatten = List.replicate m v
  | 0 => rfl
  | m + 1 => by rw [List.replicate_succ, List.flatten_cons, flat_rep v m]; rfl
theorem row_ok (hd : Sp tb "_law_draw" 1 DrawR) (hu : Sp tb "_law_number" 2 NumR) (hb : Sp tb "_law_bent_row" 2 BentR) (hn : 2 ≤ n) (hD : Deck a b C) {q m : Int} (h0 : 1 ≤ m) (h1 : m ≤ 60)
    (k : ∀ (xs : List Int) C', (xs.length : Int) = m → Deck a b C' → Fm a b C C' → P (.tup (xs.map .int)) C') : denF ⟨Gm tb n, ex⟩ i_law_row [.ref a, .int q, .int m] C P := by
  refine ⟨rfl, ?_⟩
  have e : ((rangeD 0 1 m.toNat).length : Int) = m := by rw [rangeD_len]; omega
  try simp_arith! [i_law_row]
  split
  · refine ⟨by omega, by omega, comp_all (α := Int) (fun C' => Deck a b C' ∧ Fm a b C C') (fun _ => True) .int (by rw [rangeD_len, sz]; omega) ⟨hD, Fm.refl⟩ (fun d _ C5 ⟨hD5, f5⟩ K kk => ?_) fun ys C6 hl _ ⟨hD6, f6⟩ => ?_⟩
    · try simp_arith! []
      exact hu n hn _ _ _ _ ⟨a, b, rfl, hD5, fun v C7 hD7 f7 => kk _ _ trivial ⟨hD7, Fm.trans f5 f7⟩⟩
    · try simp_arith! []
      exact ⟨C6, sub_refl _, k ys _ (by rw [hl]; exact e) hD6 f6⟩
  · split
    · refine ⟨by omega, by omega, comp_all (α := Int) (fun C' => Deck a b C' ∧ Fm a b C C') (fun _ => True) .int (by rw [rangeD_len, sz]; omega) ⟨hD, Fm.refl⟩ (fun d _ C5 ⟨hD5, f5⟩ K kk => ?_) fun ys C6 hl _ ⟨hD6, f6⟩ => ?_⟩
      · try simp_arith! []
        exact use_draw hd (by omega) hD5 (by decide) (by decide) fun v C7 _ _ hD7 f7 => kk _ _ trivial ⟨hD7, Fm.trans f5 f7⟩
      · try simp_arith! []
        exact ⟨C6, sub_refl _, k ys _ (by rw [hl]; exact e) hD6 f6⟩
    · split
      · refine hu n hn _ _ _ _ ⟨a, b, rfl, hD, fun v C7 hD7 f7 => ?_⟩
        try simp_arith! [flat_rep]
        refine ⟨by omega, by omega, C7, sub_refl _, ?_⟩
        have := k (List.replicate m.toNat v) C7 (by rw [List.length_replicate]; omega) hD7 f7
        rwa [List.map_replicate] at this
      · refine hb n hn _ _ _ _ ⟨a, b, m, rfl, hD, h0, h1, fun xs C7 hl hD7 f7 => ?_⟩
        try simp_arith! []
        split
        · refine comp_mapL .int (fun x => .int (0 - x)) (by rw [sz]; omega) (fun x _ K kk => ?_) ?_
          · try simp_arith! []
            exact kk
          have e4 : (xs.map fun x => D.int (0 - x)) = (xs.map fun x => 0 - x).map .int := by rw [List.map_map]; rfl
          have hq : ¬ q = 5 := by omega
          try simp_arith! [e4, hq]
          exact ⟨C7, sub_refl _, k _ _ (by rw [List.length_map]; exact hl) hD7 f7⟩
        · split
          · refine use_draw hd (by omega) hD7 (by omega) (by omega) fun v C8 v0 v1 hD8 f8 => ?_
            obtain ⟨j, rfl⟩ : ∃ j : Nat, v = (j : Int) := ⟨v.toNat, by omega⟩
            have e5 : (j : Int) + 1 = ((j + 1 : Nat) : Int) := by omega
            obtain ⟨z, mz, g1, g2⟩ := atI_in (xs := xs) (i := (j : Int)) (by omega) (by omega)
            try simp_arith! [cutD_map, e5, cut_to, cut_from, atI_map, g2, Option.map_some]
            refine use_draw hd (by omega) hD8 (by decide) (by decide) fun u C9 u0 u1 hD9 f9 => ?_
            try simp_arith! []
            obtain ⟨w, e, mw⟩ := pick3 (D.int 1) (D.int (-1)) (D.int 2) u0 u1
            obtain ⟨y, rfl⟩ : ∃ y : Int, w = .int y := by rcases mw with rfl | rfl | rfl <;> exact ⟨_, rfl⟩
            refine ⟨_, e, ?_⟩
            try simp_arith! []
            have e6 : (xs.take j).map D.int ++ [D.int (z + y)] ++ (xs.drop (j + 1)).map D.int = (xs.take j ++ [z + y] ++ xs.drop (j + 1)).map .int := by rw [List.map_append, List.map_append]; rfl
            refine ⟨by rw [List.length_map, List.length_take]; omega, by rw [List.length_append, List.length_map, List.length_map, List.length_take, List.length_drop, List.length_singleton]; omega, C9, sub_refl _, ?_⟩
            rw [e6]
            exact k _ _ (by rw [List.length_append, List.length_append, List.length_take, List.length_drop, List.length_singleton]; omega) hD9 (Fm.trans f7 (Fm.trans f8 f9))
          · exact ⟨C7, sub_refl _, k _ _ hl hD7 f7⟩

theorem deck_ok {ns : List Int} (hl : ns.length ≤ 63) (k : ∀ a b C', Deck a b C' → P (.ref a) C') : denF ⟨Gm tb n, ex⟩ i_law_deck [.scr (ns.map .int)] C P := by
  refine ⟨rfl, ?_⟩
  have e63 : (63 : Int) = ((63 : Nat) : Int) := rfl
  try simp_arith! [i_law_deck, cutD_map]
  rw [e63, cut_to, List.take_of_length_le hl]
  intro b hb
  try simp_arith! [if_pos rfl]
  intro a ha
  have hab : a ≠ b := fun e => by rw [e, if_pos rfl] at ha; cases ha
  exact ⟨_, sub_refl _, k a b _ ⟨ns, _, _, hab, if_pos rfl, by show (if b = a then _ else if b = b then _ else C b) = _; rw [if_neg hab.symm, if_pos rfl], hl⟩⟩
end
section
variable {tb : List (String × Def)}
theorem sp_draw (h : tb.lookup "_law_draw" = some i_law_draw) : Sp tb "_law_draw" 1 DrawR :=
  sp_mk h fun n _ ds C P ex ⟨a, b, m, e, hD, h0, h1, k⟩ => by subst e; exact draw_ok _ a b m C P hD h0 h1 k
theorem sp_deck (h : tb.lookup "_law_deck" = some i_law_deck) : Sp tb "_law_deck" 1 DeckR :=
  sp_mk h fun n _ ds C P ex ⟨ns, e, hl, k⟩ => by subst e; exact deck_ok hl k
theorem sp_number (hd : Sp tb "_law_draw" 1 DrawR) (h : tb.lookup "_law_number" = some i_law_number) : Sp tb "_law_number" 2 NumR :=
  sp_mk h fun n hn ds C P ex ⟨a, b, e, hD, k⟩ => by subst e; exact number_ok hd hn hD k
theorem sp_size (hd : Sp tb "_law_draw" 1 DrawR) (h : tb.lookup "_law_size" = some i_law_size) : Sp tb "_law_size" 2 SizeR :=
  sp_mk h fun n hn ds C P ex ⟨a, b, e, hD, k⟩ => by subst e; exact size_ok hd hn hD k
theorem sp_bent (hd : Sp tb "_law_draw" 1 DrawR) (h : tb.lookup "_law_bent_row" = some i_law_bent_row) : Sp tb "_law_bent_row" 2 BentR :=
  sp_mk h fun n hn ds C P ex ⟨a, b, m, e, hD, h0, h1, k⟩ => by subst e; exact bent_row_ok hd hn hD h0 h1 k
theorem sp_row (hd : Sp tb "_law_draw" 1 DrawR) (hu : Sp tb "_law_number" 2 NumR) (hb : Sp tb "_law_bent_row" 2 BentR) (h : tb.lookup "_law_row" = some i_law_row) : Sp tb "_law_row" 3 RowR :=
  sp_mk h fun n hn ds C P ex ⟨a, b, q, m, e, hD, h0, h1, k⟩ => by subst e; exact row_ok hd hu hb hn hD h0 h1 k
end
end M61.R27

set_option Elab.async false
set_option linter.all false
set_option autoImplicit false
set_option maxRecDepth 100000
/-! P78: rows joined: what may be said of sums and places (no program in sight). -/
namespace M61.JN
open PySem PySem.Spec PyProof.Rows L2
open M61.LK (Lk plt nD fbl FB fbl_FB fbl_eq Up kle TM bt bt_t bt_f)
section
variable {one other third : List Int} {k : Nat}
theorem sum_le {i j : Nat} (hi : i < one.length) (hj : j < other.length) : sumJ one other (i + j) ≤ at0 one i + at0 other j := by
  have f := isF (k := i + j) (show 1 ≤ one.length by omega) (show 1 ≤ other.length by omega) (by omega)
  have := f.le i (by show i + j + 1 - other.length ≤ i; omega) (by show i ≤ min (one.length - 1) (i + j); omega)
  have e : fvJ one other (i + j) i = at0 one i + at0 other j := by unfold fvJ; rw [show i + j - i = j by omega]
  rw [e] at this
  show fvJ one other (i + j) (fstJ one other (i + j)) ≤ _
  omega
theorem sum_at (h1 : 1 ≤ one.length) (h2 : 1 ≤ other.length) (hk : k < one.length + other.length - 1) : ∃ i j, i < one.length ∧ j < other.length ∧ i + j = k ∧ sumJ one other k = at0 one i + at0 other j ∧ i = fstJ one other k := by
  have f := isF h1 h2 hk
  have a : k + 1 - other.length ≤ fstJ one other k := f.lo
  have b : fstJ one other k ≤ min (one.length - 1) k := f.hi
  exact ⟨fstJ one other k, k - fstJ one other k, by omega, by omega, by omega, rfl, rfl⟩
/-- p has the least sum, the first to have it -/
theorem first_is (h1 : 1 ≤ one.length) (h2 : 1 ≤ other.length) {i j : Nat} (hi : i < one.length) (hj : j < other.length) (e : at0 one i + at0 other j = sumJ one other (i + j)) (h : ∀ i' j', i' < i → j' < other.length → i' + j' = i + j → sumJ one other (i + j) < at0 one i' + at0 other j') : fstJ one other (i + j) = i := by
  have f := isF (k := i + j) h1 h2 (by omega)
  have fv0 : fvJ one other (i + j) i = sumJ one other (i + j) := by rw [← e]; unfold fvJ; rw [show i + j - i = j by omega]
  refine f.uniq ⟨by show i + j + 1 - other.length ≤ i; omega, by show i ≤ min (one.length - 1) (i + j); omega, fun x x1 x2 => ?_⟩
  have x1 : i + j + 1 - other.length ≤ x := x1
  have x2 : x ≤ min (one.length - 1) (i + j) := x2
  rw [fv0]
  have q : fvJ one other (i + j) x = at0 one x + at0 other (i + j - x) := rfl
  rw [q]
  have l := sum_le (one := one) (other := other) (i := x) (j := i + j - x) (by omega) (by omega)
  rw [show x + (i + j - x) = i + j by omega] at l
  by_cases c : x < i
  · exact .inl (h x (i + j - x) c (by omega) (by omega))
  · omega
/-- before the first, all are greater -/
theorem first_lt (h1 : 1 ≤ one.length) (h2 : 1 ≤ other.length) (hk : k < one.length + other.length - 1) {i j : Nat} (hi : i < fstJ one other k) (hj : j < other.length) (e : i + j = k) : sumJ one other k < at0 one i + at0 other j := by
  have f := isF h1 h2 hk
  have b : fstJ one other k ≤ min (one.length - 1) k := f.hi
  have := f.le i (by show k + 1 - other.length ≤ i; omega) (by show i ≤ min (one.length - 1) k; omega)
  have q : fvJ one other k i = at0 one i + at0 other j := by unfold fvJ; rw [show k - i = j by omega]
  rw [q] at this
  show fvJ one other k (fstJ one other k) < _
  omega
theorem at_sums (h : k < one.length + other.length - 1) : at0 (sumsL one other) k = sumJ one other k := by
  unfold at0 sumsL
  rw [List.getElem?_map, List.getElem?_range h]; rfl
theorem ext0 {xs ys : List Int} (h : xs.length = ys.length) (e : ∀ k, k < xs.length → at0 xs k = at0 ys k) : xs = ys := by
  refine List.ext_getElem h fun i h1 h2 => ?_
  have := e i h1
  unfold at0 at this
  rw [List.getElem?_eq_getElem h1, List.getElem?_eq_getElem h2] at this
  exact this
/-! ### the other way about -/
theorem sum_comm (h1 : 1 ≤ one.length) (h2 : 1 ≤ other.length) (hk : k < one.length + other.length - 1) : sumJ other one k = sumJ one other k := by
  obtain ⟨i, j, hi, hj, e, q, _⟩ := sum_at h1 h2 hk
  obtain ⟨i', j', hi', hj', e', q', _⟩ := sum_at (one := other) (other := one) h2 h1 (k := k) (by omega)
  have a := sum_le (one := one) (other := other) hj' hi'
  have b := sum_le (one := other) (other := one) hj hi
  rw [show j' + i' = k by omega] at a
  rw [show j + i = k by omega] at b
  omega
theorem sums_comm (h1 : 1 ≤ one.length) (h2 : 1 ≤ other.length) : sumsL other one = sumsL one other := by
  unfold sumsL
  rw [show other.length + one.length - 1 = one.length + other.length - 1 by omega]
  exact List.map_congr_left fun k hk => sum_comm h1 h2 (List.mem_range.mp hk)
/-- the last place -/
def lastJ (one other : List Int) (k : Nat) : Nat := k - fstJ other one k
theorem last_is (h1 : 1 ≤ one.length) (h2 : 1 ≤ other.length) (hk : k < one.length + other.length - 1) : loJ other.length k ≤ lastJ one other k ∧ lastJ one other k ≤ hiJ one.length k ∧ fvJ one other k (lastJ one other k) = sumJ one other k ∧ ∀ x, loJ other.length k ≤ x → x ≤ hiJ one.length k → fvJ one other k x = sumJ one other k → x ≤ lastJ one other k := by
  have f := isF (one := other) (other := one) h2 h1 (k := k) (by omega)
  have a : k + 1 - one.length ≤ fstJ other one k := f.lo
  have b : fstJ other one k ≤ min (other.length - 1) k := f.hi
  have s := sum_comm h1 h2 hk
  unfold lastJ
  refine ⟨by show k + 1 - other.length ≤ _; omega, by show _ ≤ min (one.length - 1) k; omega, ?_, fun x x1 x2 x3 => ?_⟩
  · rw [← s]
    show at0 one (k - fstJ other one k) + at0 other (k - (k - fstJ other one k)) = at0 other (fstJ other one k) + at0 one (k - fstJ other one k)
    rw [show k - (k - fstJ other one k) = fstJ other one k by omega]; omega
  · have x1 : k + 1 - other.length ≤ x := x1
    have x2 : x ≤ min (one.length - 1) k := x2
    refine Nat.le_of_not_lt fun c => ?_
    have := first_lt (one := other) (other := one) h2 h1 (k := k) (by omega) (i := k - x) (j := x) (by omega) (by omega) (by omega)
    rw [s] at this
    have x3 : at0 one x + at0 other (k - x) = sumJ one other k := x3
    omega
theorem last_uniq (h1 : 1 ≤ one.length) (h2 : 1 ≤ other.length) {i j : Nat} (hi : i < one.length) (hj : j < other.length) (e : at0 one i + at0 other j = sumJ one other (i + j)) (h : ∀ i' j', i < i' → i' < one.length → j' < other.length → i' + j' = i + j → sumJ one other (i + j) < at0 one i' + at0 other j') : lastJ one other (i + j) = i := by
  have s := sum_comm (k := i + j) h1 h2 (by omega)
  have := first_is (one := other) (other := one) h2 h1 hj hi (by rw [Nat.add_comm j i, s]; omega) fun j' i' c1 c2 c3 => by
    rw [Nat.add_comm j i, s]
    have := h i' j' (by omega) c2 (by omega) (by omega)
    omega
  unfold lastJ
  rw [Nat.add_comm i j, this]; omega
/-! ### back to front -/
theorem sum_rev (h1 : 1 ≤ one.length) (h2 : 1 ≤ other.length) (hk : k < one.length + other.length - 1) : sumJ one.reverse other.reverse k = sumJ one other (one.length + other.length - 2 - k) := by
  obtain ⟨i, j, hi, hj, e, q, _⟩ := sum_at (one := one.reverse) (other := other.reverse) (k := k) (by rw [List.length_reverse]; exact h1) (by rw [List.length_reverse]; exact h2) (by rw [List.length_reverse, List.length_reverse]; exact hk)
  rw [List.length_reverse] at hi hj
  rw [at_rev _ _ hi, at_rev _ _ hj] at q
  obtain ⟨i', j', hi', hj', e', q', _⟩ := sum_at h1 h2 (k := one.length + other.length - 2 - k) (by omega)
  have a := sum_le (one := one) (other := other) (i := one.length - 1 - i) (j := other.length - 1 - j) (by omega) (by omega)
  have b := sum_le (one := one.reverse) (other := other.reverse) (i := one.length - 1 - i') (j := other.length - 1 - j') (by rw [List.length_reverse]; omega) (by rw [List.length_reverse]; omega)
  rw [at_rev _ _ (by omega), at_rev _ _ (by omega)] at b
  rw [show one.length - 1 - (one.length - 1 - i') = i' by omega, show other.length - 1 - (other.length - 1 - j') = j' by omega, show one.length - 1 - i' + (other.length - 1 - j') = k by omega] at b
  rw [show one.length - 1 - i + (other.length - 1 - j) = one.length + other.length - 2 - k by omega] at a
  omega
theorem sums_rev (h1 : 1 ≤ one.length) (h2 : 1 ≤ other.length) : sumsL one.reverse other.reverse = (sumsL one other).reverse := by
  refine ext0 (by simp [sumsL]) fun k hk => ?_
  have hl : (sumsL one.reverse other.reverse).length = one.length + other.length - 1 := by simp [sumsL]
  have hl2 : (sumsL one other).length = one.length + other.length - 1 := by simp [sumsL]
  rw [hl] at hk
  rw [at_sums (by rw [List.length_reverse, List.length_reverse]; exact hk), at_rev _ _ (by rw [hl2]; exact hk), hl2, at_sums (by omega), sum_rev h1 h2 hk, show one.length + other.length - 1 - 1 - k = one.length + other.length - 2 - k by omega]
theorem fst_rev (h1 : 1 ≤ one.length) (h2 : 1 ≤ other.length) (hk : k < one.length + other.length - 1) : one.length - 1 - fstJ one.reverse other.reverse (one.length + other.length - 2 - k) = lastJ one other k := by
  have r1 : 1 ≤ one.reverse.length := by rw [List.length_reverse]; exact h1
  have r2 : 1 ≤ other.reverse.length := by rw [List.length_reverse]; exact h2
  have hk' : one.length + other.length - 2 - k < one.reverse.length + other.reverse.length - 1 := by rw [List.length_reverse, List.length_reverse]; omega
  obtain ⟨i, j, hi, hj, e, q, ei⟩ := sum_at r1 r2 hk'
  have fl := fun i' j' => first_lt (i := i') (j := j') r1 r2 hk'
  rw [← ei] at fl ⊢
  rw [sum_rev h1 h2 (by omega), show one.length + other.length - 2 - (one.length + other.length - 2 - k) = k by omega] at q fl
  rw [List.length_reverse] at hi hj fl
  rw [at_rev _ _ hi, at_rev _ _ hj] at q
  have := last_uniq h1 h2 (i := one.length - 1 - i) (j := other.length - 1 - j) (by omega) (by omega) (by rw [show one.length - 1 - i + (other.length - 1 - j) = k by omega]; exact q.symm) fun i' j' c1 c2 c3 c4 => by
    rw [show one.length - 1 - i + (other.length - 1 - j) = k by omega] at c4 ⊢
    have := fl (one.length - 1 - i') (other.length - 1 - j') (by omega) (by omega) (by omega)
    rw [at_rev _ _ (by omega), at_rev _ _ (by omega)] at this
    rw [show one.length - 1 - (one.length - 1 - i') = i' by omega, show other.length - 1 - (other.length - 1 - j') = j' by omega] at this
    exact this
  rw [show one.length - 1 - i + (other.length - 1 - j) = k by omega] at this
  exact this.symm
/-! ### moved -/
theorem sum_moved (h1 : 1 ≤ one.length) (h2 : 1 ≤ other.length) (hk : k < one.length + other.length - 1) (c : Int) : sumJ (one.map fun x => x + c) other k = sumJ one other k + c ∧ fstJ (one.map fun x => x + c) other k = fstJ one other k := by
  have l : (one.map fun x => x + c).length = one.length := List.length_map _
  obtain ⟨i, j, hi, hj, e, q, ei⟩ := sum_at h1 h2 hk
  obtain ⟨i', j', hi', hj', e', q', ei'⟩ := sum_at (one := one.map fun x => x + c) (other := other) (k := k) (by rw [l]; exact h1) h2 (by rw [l]; exact hk)
  rw [l] at hi'
  rw [at_map _ _ _ hi'] at q'
  have a := sum_le (one := one) (other := other) hi' hj'
  have b := sum_le (one := one.map fun x => x + c) (other := other) (by rw [l]; exact hi) hj
  rw [at_map _ _ _ hi, e] at b
  rw [e'] at a
  have s : sumJ (one.map fun x => x + c) other k = sumJ one other k + c := by omega
  refine ⟨s, ?_⟩
  have := first_is (one := one.map fun x => x + c) (other := other) (by rw [l]; exact h1) h2 (i := i) (j := j) (by rw [l]; exact hi) hj (by rw [at_map _ _ _ hi, e, s]; omega) fun i2 j2 c1 c2 c3 => by
    rw [at_map _ _ _ (by omega), e, s]
    have := first_lt h1 h2 hk (i := i2) (j := j2) (by omega) c2 (by omega)
    omega
  rw [e] at this
  rw [this, ei]
/-- joined with one number -/
theorem sum_one (h1 : 1 ≤ one.length) (hk : k < one.length) (c : Int) : sumJ one [c] k = at0 one k + c ∧ fstJ one [c] k = k := by
  obtain ⟨i, j, hi, hj, e, q, ei⟩ := sum_at (other := [c]) h1 (Nat.le_refl 1) (k := k) (by show k < one.length + 1 - 1; omega)
  have hj : j < 1 := hj
  have : j = 0 := by omega
  subst this
  have : i = k := by omega
  subst this
  exact ⟨q, ei.symm⟩
/-- more at a place: no less -/
theorem sum_more {more : List Int} (h1 : 1 ≤ one.length) (h2 : 1 ≤ other.length) (l : more.length = one.length) (g : ∀ i, i < one.length → at0 one i ≤ at0 more i) (hk : k < one.length + other.length - 1) : sumJ one other k ≤ sumJ more other k := by
  obtain ⟨i, j, hi, hj, e, q, _⟩ := sum_at (one := more) (other := other) (k := k) (by omega) h2 (by omega)
  have a := sum_le (one := one) (other := other) (i := i) (j := j) (by omega) hj
  have := g i (by omega)
  rw [e] at a; omega
/-- a longer one: no more -/
theorem sum_longer (h1 : 1 ≤ one.length) (h2 : 1 ≤ other.length) (c : Int) (hk : k < one.length + other.length - 1) : sumJ one (other ++ [c]) k ≤ sumJ one other k := by
  obtain ⟨i, j, hi, hj, e, q, _⟩ := sum_at h1 h2 hk
  have a := sum_le (one := one) (other := other ++ [c]) (i := i) (j := j) hi (by rw [List.length_append]; omega)
  have e2 : at0 (other ++ [c]) j = at0 other j := by unfold at0; rw [List.getElem?_append_left hj]
  rw [e, e2] at a; omega
theorem sums_moved (h1 : 1 ≤ one.length) (h2 : 1 ≤ other.length) (c : Int) : sumsL (one.map fun x => x + c) other = (sumsL one other).map (fun x => x + c) ∧ fstsL (one.map fun x => x + c) other = fstsL one other := by
  unfold sumsL fstsL
  rw [List.length_map, List.map_map]
  exact ⟨List.map_congr_left fun k hk => (sum_moved h1 h2 (List.mem_range.mp hk) c).1, List.map_congr_left fun k hk => (sum_moved h1 h2 (List.mem_range.mp hk) c).2⟩
theorem sums_one (h1 : 1 ≤ one.length) (c : Int) : sumsL one [c] = one.map (fun x => x + c) ∧ fstsL one [c] = List.range one.length := by
  have hl : one.length + [c].length - 1 = one.length := rfl
  constructor
  · refine ext0 (by rw [sumsL_len, List.length_map, hl]) fun k hk => ?_
    rw [sumsL_len, hl] at hk
    rw [at_sums (by rw [hl]; exact hk), at_map _ _ _ hk]
    exact (sum_one h1 hk c).1
  · unfold fstsL
    rw [hl]
    have : (List.range one.length).map (fstJ one [c]) = (List.range one.length).map id := List.map_congr_left fun k hk => (sum_one h1 (List.mem_range.mp hk) c).2
    rw [this, List.map_id]
/-! ### three -/
theorem sum3 (h1 : 1 ≤ one.length) (h2 : 1 ≤ other.length) (h3 : 1 ≤ third.length) (hk : k < one.length + other.length + third.length - 2) : sumJ (sumsL one other) third k = sumJ one (sumsL other third) k := by
  have l1 := sumsL_len one other
  have l2 := sumsL_len other third
  obtain ⟨p, z, hp, hz, e, q, _⟩ := sum_at (one := sumsL one other) (other := third) (k := k) (by omega) h3 (by omega)
  obtain ⟨x, r, hx, hr, e', q', _⟩ := sum_at (one := one) (other := sumsL other third) (k := k) h1 (by omega) (by omega)
  rw [l1] at hp
  rw [l2] at hr
  rw [at_sums hp] at q
  rw [at_sums hr] at q'
  obtain ⟨i, j, hi, hj, e2, q2, _⟩ := sum_at h1 h2 hp
  obtain ⟨i', j', hi', hj', e2', q2', _⟩ := sum_at h2 h3 hr
  have a := sum_le (one := one) (other := sumsL other third) (i := i) (j := j + z) hi (by omega)
  rw [at_sums (by omega)] at a
  have a2 := sum_le (one := other) (other := third) hj hz
  have b := sum_le (one := sumsL one other) (other := third) (i := x + i') (j := j') (by omega) hj'
  rw [at_sums (by omega)] at b
  have b2 := sum_le (one := one) (other := other) hx hi'
  rw [show i + (j + z) = k by omega] at a
  rw [show x + i' + j' = k by omega] at b
  omega
theorem sums3 (h1 : 1 ≤ one.length) (h2 : 1 ≤ other.length) (h3 : 1 ≤ third.length) : sumsL (sumsL one other) third = sumsL one (sumsL other third) := by
  have l1 := sumsL_len one other
  have l2 := sumsL_len other third
  show (List.range _).map _ = (List.range _).map _
  rw [l1, l2, show one.length + other.length - 1 + third.length - 1 = one.length + (other.length + third.length - 1) - 1 by omega]
  exact List.map_congr_left fun k hk => sum3 h1 h2 h3 (by have := List.mem_range.mp hk; omega)
end
end M61.JN

set_option Elab.async false
set_option linter.all false
set_option autoImplicit false
set_option maxRecDepth 100000
/-! Pk27: rows joined put otherwise. -/
namespace M61.k27
open PySem PySem.Spec PyProof.Rows L2
local macro_rules
  | `(tactic| simp_arith! [$ls,*] $[$loc:location]?) => `(tactic| try simp only [wipeR_cons, wipeR_nil, eq_self, denE, denT, denEs, denO, denC, denI, bindT_nm, bindT_tp, bindT_tl, bindTs_nil, bindTs_cons, varD_0, varD_s, varM_own0, varM_dat0, varM_s, varO_0, varO_s, varL_own0, varL_ref0, varL_s, sz, cp1, cp2, cp3, cp4, cp5, cp6, cp7, cp8, cp9, cp10, cp11, cp12, cp15, cp18, add_i, add_t, add_l, add_s, add_b, sub_b, sub_i, mul_i, mul_t, mul_sgn, mul_l, fdiv_i, mod_i, pow_i, shl_i, eq_r, ne_r, inn_t, nin_t, inn_l, nin_l, lt_r, lt_tt, le_r, gt_r, ge_r, is_n, isn_n, is_b, isn_b, isNon_n, isNon_i, isNon_t, isNon_l, isNon_b, isNon_s, tru_n, tru_b, tru_i, tru_t, tru_l, ix_t, ix_l, ix_c, ix_r, cellAt_l, cellL_l, lstD_l, lstD_r, sqD_t, sqD_l, sl_t, sl_l, sl_c, sl_r, rev_t, rev_l, len_t, len_l, len_c, len_r, tup_t, tup_l, tup_r, sum_t, sum_l, sum_r, min_t, min_l, max_t, max_l, min_2, max_2, min_3, repr_r, str_ri, abs_i, int_i, int_b, all_l, any_l, ty_bb, ty_bi, ty_bn, ty_bt, ty_ss, ty_sn, ty_si, ty_sb, ty_ii, ty_ib, ty_in, ty_it, ty_tt, ty_tn, ty_ti, ty_tb, ty_ll, ty_lt, ty_is, ty_il, ty_bs, ty_blst, ty_st, ty_sl, ty_ts, ty_tl, ty_ln, ty_li, ty_lb, ty_ls, intsOf_map, boolsOf_map, pair_Cmp, int_Cmp, bl_Cmp, non_Cmp, ints_Cmp, intst_Cmp, eqv_int, eqv_bl, eqv_ints, eqv_intst, List.map_cons, List.map_nil, List.replicate_succ, List.replicate_zero, List.cons_append, List.nil_append, List.set_cons_zero, List.set_cons_succ, List.length_cons, List.length_nil, List.getElem?_cons_zero, List.getElem?_cons_succ, List.eraseIdx_cons_zero, Nat.reduceSub, Nat.reduceAdd, Nat.reduceLT, Nat.reduceLeDiff, Nat.reducePow, Nat.reduceEqDiff, Nat.reduceMul, Int.reducePow, Int.reduceToNat, Int.reduceMul, Int.reduceAdd, Int.reduceSub, Int.reduceNeg, Int.reduceLT, Int.reduceLE, Int.reduceEq, Int.reduceBEq, Int.reduceBNe, zero_add', not_true_eq_false, not_false_eq_true, Bool.true_eq_false, false_and, and_false, true_and, and_true, exists_eq_left', exists_and_left, Option.some.injEq, Cell.lst.injEq, Cell.dct.injEq, Cell.dtp.injEq, Cell.ins.injEq, if_pos_true, reduceIte, Bool.false_eq_true, decide_true, decide_false, Bool.not_true, Bool.not_false, Bool.not_eq_true', Bool.and_true, Bool.true_and, decide_eq_true_eq, decide_eq_false_iff_not, ite_self, List.isEmpty_cons, List.isEmpty_nil, ss_nil', ss_cons', s_set', s_own', s_setF', s_unp', s_par2', par2K_e, s_par3', par3K_e, s_app', s_ext', extK_e, s_exp', s_csub', csubK_e, s_dset', dsetK_e, s_capp', cappK_e, s_aug', augK_a, augK_s, s_oset', osetK_e, s_ife', s_for', s_forc', forcK_e, s_whl', s_ret', s_ret0', s_pass', s_brk', s_cnt', l_comp', l_compc', compcK_e, l_lit', l_cat', l_cato', l_rvd', l_lrv', l_ls2', l_list', l_srt', srtK_e, l_srr', srrK_e, l_lrg1', l_lrg2', lrgK_e, l_rep', repK_e, s_fset', fsetK_e, s_dpt', dptK_e, s_ndef', s_mkr', s_mkc', l_odd', oddK_e, setM_nil, setM_cons, Int.toNat_natCast, List.length_map, exists_eq_left, $ls,*] $[$loc]?)
local macro_rules
  | `(tactic| simp_all_arith! [$ls,*]) => `(tactic| ((try simp only [wipeR_cons, wipeR_nil, eq_self, denE, denT, denEs, denO, denC, denI, bindT_nm, bindT_tp, bindT_tl, bindTs_nil, bindTs_cons, varD_0, varD_s, varM_own0, varM_dat0, varM_s, varO_0, varO_s, varL_own0, varL_ref0, varL_s, sz, cp1, cp2, cp3, cp4, cp5, cp6, cp7, cp8, cp9, cp10, cp11, cp12, cp15, cp18, add_i, add_t, add_l, add_s, add_b, sub_b, sub_i, mul_i, mul_t, mul_sgn, mul_l, fdiv_i, mod_i, pow_i, shl_i, eq_r, ne_r, inn_t, nin_t, inn_l, nin_l, lt_r, lt_tt, le_r, gt_r, ge_r, is_n, isn_n, is_b, isn_b, isNon_n, isNon_i, isNon_t, isNon_l, isNon_b, isNon_s, tru_n, tru_b, tru_i, tru_t, tru_l, ix_t, ix_l, ix_c, ix_r, cellAt_l, cellL_l, lstD_l, lstD_r, sqD_t, sqD_l, sl_t, sl_l, sl_c, sl_r, rev_t, rev_l, len_t, len_l, len_c, len_r, tup_t, tup_l, tup_r, sum_t, sum_l, sum_r, min_t, min_l, max_t, max_l, min_2, max_2, min_3, repr_r, str_ri, abs_i, int_i, int_b, all_l, any_l, ty_bb, ty_bi, ty_bn, ty_bt, ty_ss, ty_sn, ty_si, ty_sb, ty_ii, ty_ib, ty_in, ty_it, ty_tt, ty_tn, ty_ti, ty_tb, ty_ll, ty_lt, ty_is, ty_il, ty_bs, ty_blst, ty_st, ty_sl, ty_ts, ty_tl, ty_ln, ty_li, ty_lb, ty_ls, intsOf_map, boolsOf_map, pair_Cmp, int_Cmp, bl_Cmp, non_Cmp, ints_Cmp, intst_Cmp, eqv_int, eqv_bl, eqv_ints, eqv_intst, List.map_cons, List.map_nil, List.replicate_succ, List.replicate_zero, List.cons_append, List.nil_append, List.set_cons_zero, List.set_cons_succ, List.length_cons, List.length_nil, List.getElem?_cons_zero, List.getElem?_cons_succ, List.eraseIdx_cons_zero, Nat.reduceSub, Nat.reduceAdd, Nat.reduceLT, Nat.reduceLeDiff, Nat.reducePow, Nat.reduceEqDiff, Nat.reduceMul, Int.reducePow, Int.reduceToNat, Int.reduceMul, Int.reduceAdd, Int.reduceSub, Int.reduceNeg, Int.reduceLT, Int.reduceLE, Int.reduceEq, Int.reduceBEq, Int.reduceBNe, zero_add', not_true_eq_false, not_false_eq_true, Bool.true_eq_false, false_and, and_false, true_and, and_true, exists_eq_left', exists_and_left, Option.some.injEq, Cell.lst.injEq, Cell.dct.injEq, Cell.dtp.injEq, Cell.ins.injEq, if_pos_true, reduceIte, Bool.false_eq_true, decide_true, decide_false, Bool.not_true, Bool.not_false, Bool.not_eq_true', Bool.and_true, Bool.true_and, decide_eq_true_eq, decide_eq_false_iff_not, ite_self, List.isEmpty_cons, List.isEmpty_nil, ss_nil', ss_cons', s_set', s_own', s_setF', s_unp', s_par2', par2K_e, s_par3', par3K_e, s_app', s_ext', extK_e, s_exp', s_csub', csubK_e, s_dset', dsetK_e, s_capp', cappK_e, s_aug', augK_a, augK_s, s_oset', osetK_e, s_ife', s_for', s_forc', forcK_e, s_whl', s_ret', s_ret0', s_pass', s_brk', s_cnt', l_comp', l_compc', compcK_e, l_lit', l_cat', l_cato', l_rvd', l_lrv', l_ls2', l_list', l_srt', srtK_e, l_srr', srrK_e, l_lrg1', l_lrg2', lrgK_e, l_rep', repK_e, s_fset', fsetK_e, s_dpt', dptK_e, s_ndef', s_mkr', s_mkc', l_odd', oddK_e, setM_nil, setM_cons, Int.toNat_natCast, List.length_map, exists_eq_left, $ls,*]); (repeat ((with_reducible (first | refine blk_of ?_ | refine turn_of ?_ | refine tst_of ?_)); (try simp only [wipeR_cons, wipeR_nil, eq_self, denE, denT, denEs, denO, denC, denI, bindT_nm, bindT_tp, bindT_tl, bindTs_nil, bindTs_cons, varD_0, varD_s, varM_own0, varM_dat0, varM_s, varO_0, varO_s, varL_own0, varL_ref0, varL_s, sz, cp1, cp2, cp3, cp4, cp5, cp6, cp7, cp8, cp9, cp10, cp11, cp12, cp15, cp18, add_i, add_t, add_l, add_s, add_b, sub_b, sub_i, mul_i, mul_t, mul_sgn, mul_l, fdiv_i, mod_i, pow_i, shl_i, eq_r, ne_r, inn_t, nin_t, inn_l, nin_l, lt_r, lt_tt, le_r, gt_r, ge_r, is_n, isn_n, is_b, isn_b, isNon_n, isNon_i, isNon_t, isNon_l, isNon_b, isNon_s, tru_n, tru_b, tru_i, tru_t, tru_l, ix_t, ix_l, ix_c, ix_r, cellAt_l, cellL_l, lstD_l, lstD_r, sqD_t, sqD_l, sl_t, sl_l, sl_c, sl_r, rev_t, rev_l, len_t, len_l, len_c, len_r, tup_t, tup_l, tup_r, sum_t, sum_l, sum_r, min_t, min_l, max_t, max_l, min_2, max_2, min_3, repr_r, str_ri, abs_i, int_i, int_b, all_l, any_l, ty_bb, ty_bi, ty_bn, ty_bt, ty_ss, ty_sn, ty_si, ty_sb, ty_ii, ty_ib, ty_in, ty_it, ty_tt, ty_tn, ty_ti, ty_tb, ty_ll, ty_lt, ty_is, ty_il, ty_bs, ty_blst, ty_st, ty_sl, ty_ts, ty_tl, ty_ln, ty_li, ty_lb, ty_ls, intsOf_map, boolsOf_map, pair_Cmp, int_Cmp, bl_Cmp, non_Cmp, ints_Cmp, intst_Cmp, eqv_int, eqv_bl, eqv_ints, eqv_intst, List.map_cons, List.map_nil, List.replicate_succ, List.replicate_zero, List.cons_append, List.nil_append, List.set_cons_zero, List.set_cons_succ, List.length_cons, List.length_nil, List.getElem?_cons_zero, List.getElem?_cons_succ, List.eraseIdx_cons_zero, Nat.reduceSub, Nat.reduceAdd, Nat.reduceLT, Nat.reduceLeDiff, Nat.reducePow, Nat.reduceEqDiff, Nat.reduceMul, Int.reducePow, Int.reduceToNat, Int.reduceMul, Int.reduceAdd, Int.reduceSub, Int.reduceNeg, Int.reduceLT, Int.reduceLE, Int.reduceEq, Int.reduceBEq, Int.reduceBNe, zero_add', not_true_eq_false, not_false_eq_true, Bool.true_eq_false, false_and, and_false, true_and, and_true, exists_eq_left', exists_and_left, Option.some.injEq, Cell.lst.injEq, Cell.dct.injEq, Cell.dtp.injEq, Cell.ins.injEq, if_pos_true, reduceIte, Bool.false_eq_true, decide_true, decide_false, Bool.not_true, Bool.not_false, Bool.not_eq_true', Bool.and_true, Bool.true_and, decide_eq_true_eq, decide_eq_false_iff_not, ite_self, List.isEmpty_cons, List.isEmpty_nil, ss_nil', ss_cons', s_set', s_own', s_setF', s_unp', s_par2', par2K_e, s_par3', par3K_e, s_app', s_ext', extK_e, s_exp', s_csub', csubK_e, s_dset', dsetK_e, s_capp', cappK_e, s_aug', augK_a, augK_s, s_oset', osetK_e, s_ife', s_for', s_forc', forcK_e, s_whl', s_ret', s_ret0', s_pass', s_brk', s_cnt', l_comp', l_compc', compcK_e, l_lit', l_cat', l_cato', l_rvd', l_lrv', l_ls2', l_list', l_srt', srtK_e, l_srr', srrK_e, l_lrg1', l_lrg2', lrgK_e, l_rep', repK_e, s_fset', fsetK_e, s_dpt', dptK_e, s_ndef', s_mkr', s_mkc', l_odd', oddK_e, setM_nil, setM_cons, Int.toNat_natCast, List.length_map, exists_eq_left, $ls,*])))))
open M61.JN M61.R27
open M61.LK (nD nD_ints nD_Cmp Up)
theorem nDt_Cmp (xs : List Nat) : (D.tup (xs.map nD)).Cmp := by rw [nD_ints]; exact intst_Cmp _
theorem nD_self (xs : List Nat) : (D.lst (xs.map nD)).eqv (.lst (xs.map nD)) = true := by rw [nD_ints, eqv_ints]; exact decide_eq_true rfl
theorem nDt_self (xs : List Nat) : (D.tup (xs.map nD)).eqv (.tup (xs.map nD)) = true := by rw [nD_ints, eqv_intst]; exact decide_eq_true rfl
theorem iD_self (xs : List Int) : (iD xs).eqv (iD xs) = true := by rw [show iD xs = .tup (xs.map .int) from rfl, eqv_intst]; exact decide_eq_true rfl
theorem J_Cmp (xs : List Int) (ys : List Nat) : (D.tup [iD xs, .tup (ys.map nD)]).Cmp := by
  rw [nD_ints]
  refine cmp_of ?_ ?_ ?_
  · show (D.pures (xs.map .int) && (D.pures (_ : List D) && true)) = true
    rw [ints_pure, ints_pure]; rfl
  · show max (D.deps (xs.map .int) + 1) (max (D.deps (_ : List D) + 1) 0) + 1 ≤ 64
    rw [ints_deps, ints_deps]; decide
  · show (D.cans (xs.map .int) && (D.cans (_ : List D) && true)) = true
    rw [ints_cans, ints_cans]; rfl
theorem J_self (xs : List Int) (ys : List Nat) : (D.tup [iD xs, .tup (ys.map nD)]).eqv (.tup [iD xs, .tup (ys.map nD)]) = true := by
  show ((iD xs).eqv (iD xs) && ((D.tup (ys.map nD)).eqv (.tup (ys.map nD)) && true)) = true
  rw [iD_self, nDt_self]; rfl
theorem range_split {n : Nat} {done rest : List Nat} {x : Nat} (e : List.range n = done ++ x :: rest) : x = done.length ∧ x < n := by
  have h : (List.range n)[done.length]? = some x := by rw [e, List.getElem?_append_right (Nat.le_refl _), Nat.sub_self]; rfl
  obtain ⟨h1, h2⟩ := List.getElem?_eq_some_iff.mp h
  rw [List.getElem_range] at h2
  rw [List.length_range] at h1
  omega
theorem last_up {xs : List Nat} (u : Up xs) {p : Nat} (h : p ∈ xs) (m : ∀ x ∈ xs, x ≤ p) : ∃ ks, xs = ks ++ [p] := by
  rcases List.eq_nil_or_concat xs with e | ⟨ks, q, e⟩
  · subst e; cases h
  · rw [List.concat_eq_append] at e
    have a := m q (by rw [e]; exact List.mem_append_right _ List.mem_cons_self)
    have b : p ≤ q := by
      rw [e] at h u
      rcases List.mem_append.mp h with h | h
      · exact Nat.le_of_lt ((List.pairwise_append.mp u).2.2 p h q List.mem_cons_self)
      · rw [List.mem_singleton.mp h]; exact Nat.le_refl _
    exact ⟨ks, by rw [e, show q = p by omega]⟩
section
variable {tb : List (String × Def)} {n : Nat} {a b : Addr} {C : CM} {P : D → CM → Prop} {ex : ExP}
def MovedR (ds : List D) (C : CM) (P : D → CM → Prop) : Prop := ∃ (xs : List Int) (c : Int), ds = [iD xs, .int c] ∧ xs.length ≤ 10000 ∧ P (iD (xs.map fun x => x + c)) C
theorem sp_moved (h : tb.lookup "_law_moved" = some i_law_moved) : Sp tb "_law_moved" 1 MovedR :=
  sp_mk h fun n _ ds C P ex ⟨xs, c, e, hl, k⟩ => by
    subst e
    refine ⟨rfl, ?_⟩
    simp_all_arith! [i_law_moved]
    refine comp_mapL .int (fun x => .int (x + c)) (by show _ ≤ 2 ^ 24; omega) (fun x _ K kk => ?_) ?_
    · simp_all_arith! []; exact kk
    · simp_all_arith! []
      have e : (xs.map fun x => D.int (x + c)) = (xs.map fun x => x + c).map .int := by rw [List.map_map]; rfl
      rw [e]
      exact ⟨C, sub_refl _, k⟩
def lastsL (one other : List Int) : List Nat := (List.range (one.length + other.length - 1)).map (lastJ one other)
def LastR (ds : List D) (C : CM) (P : D → CM → Prop) : Prop := ∃ (one other : List Int), ds = [iD one, iD other, iD (sumsL one other)] ∧ 1 ≤ one.length ∧ 1 ≤ other.length ∧ one.length + other.length ≤ 10000 ∧ P (.lst ((lastsL one other).map nD)) C
theorem sp_last (h : tb.lookup "_law_last_places" = some i_law_last_places) : Sp tb "_law_last_places" 1 LastR :=
  sp_mk h fun n _ ds C P ex ⟨one, other, e, h1, h2, h3, k⟩ => by
    subst e
    have hsl := sumsL_len one other
    generalize hw : one.length + other.length - 1 = w at hsl
    refine ⟨rfl, ?_⟩
    simp_all_arith! [i_law_last_places, hsl]
    refine ⟨by omega, by omega, ?_⟩
    simp_all_arith! [Int.toNat_natCast]
    rw [rangeD_map]
    refine for_m (fun k : Nat => .int ((k : Nat) : Int)) [3, 4, 5] (fun done ys C' => ∃ x4 x5, ys = [some (.own (((List.range done.length).map (lastJ one other)).map nD)), x4, x5] ∧ C' = C) [some (.own []), none, none] rfl ⟨none, none, rfl, rfl⟩ (fun done kk rest ys C' e ⟨x4, x5, hy, hC⟩ nx knx => ?_) fun ys C' ⟨x4, x5, hy, hC⟩ => ?_
    · subst hy hC
      obtain ⟨e1, hk⟩ := range_split e
      have hk' : kk < one.length + other.length - 1 := by omega
      have b1 : loJ other.length kk = kk + 1 - other.length := rfl
      have b2 : hiJ one.length kk = min (one.length - 1) kk := rfl
      obtain ⟨l1, l2, l3, l4⟩ := last_is h1 h2 hk'
      generalize loJ other.length kk = lo at *
      generalize hiJ one.length kk = hi at *
      have ea : (if (kk : Int) - (other.length : Int) + 1 > 0 then (kk : Int) - (other.length : Int) + 1 else 0) = ((lo : Nat) : Int) := by split <;> omega
      have eb : (if (kk : Int) + 1 < (one.length : Int) then (kk : Int) + 1 else (one.length : Int)) = ((hi + 1 : Nat) : Int) := by split <;> omega
      simp_all_arith! [ea, eb]
      refine ⟨RgOk.of_le (by omega) (by omega) (by omega) (by omega), ?_⟩
      rw [show (((hi + 1 : Nat) : Int) - (lo : Int)).toNat = hi + 1 - lo by omega]
      have er : rangeD (lo : Int) 1 (hi + 1 - lo) = ((List.range (hi + 1 - lo)).map fun i => lo + i).map nD := by
        unfold rangeD
        rw [List.map_map]
        refine List.map_congr_left fun i _ => ?_
        show D.int ((lo : Int) + (i : Int) * 1) = D.int ((lo + i : Nat) : Int)
        congr 1; omega
      rw [er]
      generalize hxs : ((List.range (hi + 1 - lo)).map fun i => lo + i) = xs
      have hxm : ∀ x, x ∈ xs ↔ lo ≤ x ∧ x ≤ hi := fun x => by
        rw [← hxs, List.mem_map]
        constructor
        · rintro ⟨i, q, rfl⟩
          have := List.mem_range.mp q; omega
        · intro q
          exact ⟨x - lo, List.mem_range.mpr (by omega), by omega⟩
      have hxl : xs.length ≤ 10000 := by rw [← hxs, List.length_map, List.length_range]; omega
      have hxu : Up xs := by
        rw [← hxs]
        exact List.pairwise_map.mpr (List.pairwise_lt_range.imp fun {x y} h => by omega)
      simp_all_arith! []
      refine comp_filterL (xs := xs) (fun i => decide (fvJ one other kk i = sumJ one other kk)) nD nD (by show _ ≤ 2 ^ 24; omega) (fun i hi' K hK => ?_) ?_
      · have hi' := (hxm i).mp hi'
        unfold nD at hK ⊢
        simp_all_arith! [at_int (show i < one.length by omega), show (kk : Int) - (i : Int) = ((kk - i : Nat) : Int) by omega, at_int (show kk - i < other.length by omega), at_int (show kk < (sumsL one other).length by omega), at_sums hk']
        unfold fvJ at hK
        by_cases c : at0 one i + at0 other (kk - i) = sumJ one other kk
        · rw [if_pos (decide_eq_true c)] at hK
          rw [if_pos c]
          exact hK
        · rw [if_neg (by rw [decide_eq_true_iff]; exact c)] at hK
          rw [if_neg c]
          exact hK
      · obtain ⟨ks, eks⟩ := last_up (xs := xs.filter fun i => decide (fvJ one other kk i = sumJ one other kk)) (p := lastJ one other kk) (hxu.filter _) (List.mem_filter.mpr ⟨(hxm _).mpr ⟨l1, l2⟩, decide_eq_true l3⟩) fun x hx => by
          obtain ⟨q1, q2⟩ := List.mem_filter.mp hx
          have q1 := (hxm x).mp q1
          exact l4 x q1.1 q1.2 (of_decide_eq_true q2)
        have al : atI ((xs.filter fun i => decide (fvJ one other kk i = sumJ one other kk)).map nD) (-1) = some (nD (lastJ one other kk)) := by
          rw [eks, List.map_append]; exact atI_last _ _
        simp_all_arith! [al]
        refine ⟨by rw [List.length_range]; have := congrArg List.length e; rw [List.length_range, List.length_append] at this; omega, ?_⟩
        have e9 : ((List.range (done ++ [kk]).length).map (lastJ one other)).map nD = ((List.range done.length).map (lastJ one other)).map nD ++ [nD (lastJ one other kk)] := by
          rw [List.length_append, List.length_singleton, List.range_succ, List.map_append, List.map_append, ← e1]
          rfl
        exact knx [_, _, _] _ ⟨some (.dat (.int (kk : Nat))), some (.dat (.lst (xs.map nD))), by rw [e9], rfl⟩
    · subst hy hC
      simp_all_arith! []
      refine ⟨_, sub_refl _, ?_⟩
      rw [List.length_range]
      unfold lastsL at k
      rw [hw] at k
      exact k
def TwoR (ds : List D) (C : CM) (P : D → CM → Prop) : Prop := ∃ (a b : Addr) (one other : List Int), ds = [.ref a, iD one, iD other] ∧ Deck a b C ∧ 1 ≤ one.length ∧ one.length ≤ 20 ∧ 1 ≤ other.length ∧ other.length ≤ 20 ∧ ∀ C', Deck a b C' → P (.bl true) C'
theorem sp_two (hd : Sp tb "_law_draw" 1 DrawR) (hu : Sp tb "_law_number" 2 NumR) (hj : Sp tb "joined" 16 (JoinR 6)) (hl : Sp tb "_law_last_places" 1 LastR) (hm : Sp tb "_law_moved" 1 MovedR) (h : tb.lookup "_law_two_right" = some i_law_two_right) : Sp tb "_law_two_right" 17 TwoR :=
  sp_mk (k := 16) h fun n hn ds C P ex ⟨a, b, one, other, e, hD, h1, h3, h2, h4, k⟩ => by
    subst e
    refine ⟨rfl, ?_⟩
    simp_all_arith! [i_law_two_right]
    refine hj n hn _ _ _ _ ⟨one, other, rfl, h1, h2, by omega, by omega, ?_⟩
    simp_all_arith! []
    refine hj n hn _ _ _ _ ⟨other, one, rfl, h2, h1, by omega, by omega, ?_⟩
    simp_all_arith! []
    refine hl n (by omega) _ _ _ _ ⟨one, other, rfl, h1, h2, by omega, ?_⟩
    have c1 : (iD (sumsL one other)).Cmp := intst_Cmp _
    have c2 := nD_Cmp (lastsL one other)
    simp_all_arith! [atI_0, atI_1, sums_comm h1 h2, iD_self]
    have e1 : (fstsL other one).map nD = (List.range (one.length + other.length - 1)).map fun k => nD (fstJ other one k) := by unfold fstsL; rw [List.map_map, show other.length + one.length - 1 = one.length + other.length - 1 by omega]; rfl
    rw [e1, enum_range]
    refine comp_mapL (fun k : Nat => D.tup [.int ((k : Nat) : Int), nD (fstJ other one k)]) (fun k => nD (lastJ one other k)) (by rw [List.length_range]; show _ ≤ 2 ^ 24; omega) (fun k hk K hK => ?_) ?_
    · have hk := List.mem_range.mp hk
      have f : fstJ other one k ≤ min (other.length - 1) k := (isF h2 h1 (k := k) (by omega)).hi
      unfold lastJ at hK
      unfold nD at hK ⊢
      simp_all_arith! []
      rw [show (k : Int) - (fstJ other one k : Int) = ((k - fstJ other one k : Nat) : Int) by omega]
      exact hK
    have e2 : ((List.range (one.length + other.length - 1)).map fun k => nD (lastJ one other k)) = (lastsL one other).map nD := by unfold lastsL; rw [List.map_map]; rfl
    rw [e2]
    simp_all_arith! [nD_self]
    refine ⟨c2, c2, ?_⟩
    simp_all_arith! []
    rw [← List.map_reverse, ← List.map_reverse]
    refine hj n hn _ _ _ _ ⟨one.reverse, other.reverse, rfl, by rw [List.length_reverse]; exact h1, by rw [List.length_reverse]; exact h2, by rw [List.length_reverse, List.length_reverse]; omega, by rw [List.length_reverse, List.length_reverse]; omega, ?_⟩
    simp_all_arith! [atI_0, atI_1, sums_rev h1 h2, ← List.map_reverse]
    have e3 : (fstsL one.reverse other.reverse).map nD = (List.range (one.length + other.length - 1)).map fun k => nD (fstJ one.reverse other.reverse k) := by unfold fstsL; rw [List.map_map, List.length_reverse, List.length_reverse]; rfl
    rw [e3]
    refine comp_mapL (fun k : Nat => nD (fstJ one.reverse other.reverse k)) (fun k => nD (one.length - 1 - fstJ one.reverse other.reverse k)) (by rw [List.length_range]; show _ ≤ 2 ^ 24; omega) (fun k hk K hK => ?_) ?_
    · have hk := List.mem_range.mp hk
      have f : fstJ one.reverse other.reverse k ≤ min (one.reverse.length - 1) k := (isF (one := one.reverse) (other := other.reverse) (by rw [List.length_reverse]; exact h1) (by rw [List.length_reverse]; exact h2) (by rw [List.length_reverse, List.length_reverse]; exact hk)).hi
      rw [List.length_reverse] at f
      unfold nD at hK ⊢
      simp_all_arith! []
      rw [show (one.length : Int) - 1 - (fstJ one.reverse other.reverse k : Int) = ((one.length - 1 - fstJ one.reverse other.reverse k : Nat) : Int) by omega]
      exact hK
    have e4 : ((List.range (one.length + other.length - 1)).map fun k => nD (one.length - 1 - fstJ one.reverse other.reverse k)).reverse = (lastsL one other).map nD := by
      rw [LK.rev_range]
      unfold lastsL
      rw [List.map_map]
      refine List.map_congr_left fun k hk => ?_
      show nD _ = nD _
      congr 1
      rw [show one.length + other.length - 1 - 1 - k = one.length + other.length - 2 - k by omega]
      exact fst_rev h1 h2 (List.mem_range.mp hk)
    simp_all_arith! [e4, nD_self]
    refine ⟨c2, c2, ?_⟩
    simp_all_arith! []
    refine hu n (by omega) _ _ _ _ ⟨a, b, rfl, hD, fun v C1 hD1 _ => ?_⟩
    simp_all_arith! []
    refine hm n (by omega) _ _ _ _ ⟨one, v, rfl, by omega, ?_⟩
    simp_all_arith! []
    have lm : (one.map fun x => x + v).length = one.length := List.length_map _
    refine hj n hn _ _ _ _ ⟨one.map fun x => x + v, other, rfl, by rw [lm]; exact h1, h2, by rw [lm]; omega, by rw [lm]; omega, ?_⟩
    simp_all_arith! []
    refine hm n (by omega) _ _ _ _ ⟨sumsL one other, v, rfl, by rw [sumsL_len]; omega, ?_⟩
    obtain ⟨m1, m2⟩ := sums_moved h1 h2 v
    simp_all_arith! [m1, m2, J_self]
    refine ⟨J_Cmp _ _, J_Cmp _ _, ?_⟩
    simp_all_arith! []
    refine hj n hn _ _ _ _ ⟨one, [v], rfl, h1, Nat.le_refl 1, by show one.length + 1 ≤ _; omega, by show one.length + 1 ≤ 64; omega, ?_⟩
    obtain ⟨o1, o2⟩ := sums_one h1 v
    simp_all_arith! [o1, o2]
    refine hm n (by omega) _ _ _ _ ⟨one, v, rfl, by omega, ?_⟩
    simp_all_arith! []
    refine ⟨RgOk.of_le (by omega) (by omega) (by omega) (by omega), ?_⟩
    simp_all_arith! [Int.sub_zero, Int.toNat_natCast, LK.range_nD, J_self]
    refine ⟨J_Cmp _ _, J_Cmp _ _, ?_⟩
    simp_all_arith! []
    refine use_draw hd (by omega) hD1 (by omega) (by omega) fun j0 C2 v0 v1 hD2 _ => ?_
    obtain ⟨j, rfl⟩ : ∃ j : Nat, j0 = (j : Int) := ⟨j0.toNat, by omega⟩
    have hj1 : j < one.length := by omega
    have e5 : (j : Int) + 1 = ((j + 1 : Nat) : Int) := by omega
    simp_all_arith! [cutD_map, cut_to, at_int hj1]
    refine use_draw hd (by omega) hD2 (by decide) (by decide) fun w C3 w0 w1 hD3 _ => ?_
    have e6 : (one.take j).map D.int ++ [D.int (at0 one j + 1 + w)] ++ (one.drop (j + 1)).map D.int = (one.take j ++ [at0 one j + 1 + w] ++ one.drop (j + 1)).map .int := by rw [List.map_append, List.map_append]; rfl
    have lmo : (one.take j ++ [at0 one j + 1 + w] ++ one.drop (j + 1)).length = one.length := by rw [List.length_append, List.length_append, List.length_take, List.length_drop, List.length_singleton]; omega
    have gmo : ∀ i, i < one.length → at0 one i ≤ at0 (one.take j ++ [at0 one j + 1 + w] ++ one.drop (j + 1)) i := fun i hi => by
      have lt : (one.take j).length = j := by rw [List.length_take]; omega
      unfold at0
      by_cases c1 : i < j
      · rw [List.getElem?_append_left (by rw [List.length_append, lt]; omega), List.getElem?_append_left (by rw [lt]; exact c1), List.getElem?_take_of_lt c1]
        exact Int.le_refl _
      · by_cases c2 : i = j
        · subst c2
          rw [List.getElem?_append_left (by rw [List.length_append, lt, List.length_singleton]; omega), List.getElem?_append_right (by rw [lt]; exact Nat.le_refl _), lt, Nat.sub_self]
          show (one[i]?).getD 0 ≤ (one[i]?).getD 0 + 1 + w
          omega
        · rw [List.getElem?_append_right (by rw [List.length_append, lt, List.length_singleton]; omega), List.length_append, lt, List.length_singleton, List.getElem?_drop, show j + 1 + (i - (j + 1)) = i by omega]
          exact Int.le_refl _
    simp_all_arith! [cutD_map, e5, cut_from, e6]
    refine ⟨by rw [List.length_take]; omega, by rw [List.length_append, List.length_map, List.length_take, List.length_drop, List.length_singleton]; omega, ?_⟩
    generalize (one.take j ++ [at0 one j + 1 + w] ++ one.drop (j + 1)) = more at lmo gmo ⊢
    refine hj n hn _ _ _ _ ⟨more, other, rfl, by omega, h2, by omega, by omega, ?_⟩
    have hsl := sumsL_len one other
    simp_all_arith! [atI_0, hsl]
    refine ⟨by omega, by omega, ?_⟩
    simp_all_arith! [Int.toNat_natCast]
    rw [rangeD_map]
    have pk : ∀ (S : List Int) (q : Int → Int → Bool), True := fun _ _ => trivial
    refine comp_filterL (fun k : Nat => decide (at0 (sumsL more other) k < at0 (sumsL one other) k)) (fun k : Nat => .int ((k : Nat) : Int)) nD (by rw [List.length_range]; show _ ≤ 2 ^ 24; omega) (fun k hk K hK => ?_) ?_
    · have hk := List.mem_range.mp hk
      simp_all_arith! [at_int (show k < (sumsL more other).length by rw [sumsL_len]; omega), at_int (show k < (sumsL one other).length by omega)]
      by_cases c : at0 (sumsL more other) k < at0 (sumsL one other) k
      · rw [if_pos (decide_eq_true c)] at hK
        rw [if_pos c]; exact hK
      · rw [if_neg (by rw [decide_eq_true_iff]; exact c)] at hK
        rw [if_neg c]; exact hK
    have z1 : (List.range (one.length + other.length - 1)).filter (fun k : Nat => decide (at0 (sumsL more other) k < at0 (sumsL one other) k)) = [] := List.filter_eq_nil_iff.mpr fun k hk => by
      have hk := List.mem_range.mp hk
      rw [decide_eq_true_iff, at_sums (by omega), at_sums hk]
      have := sum_more h1 h2 lmo gmo hk
      omega
    rw [z1]
    simp_all_arith! []
    refine ⟨nD_Cmp [], ?_⟩
    simp_all_arith! []
    have lo1 : (other ++ [v]).length = other.length + 1 := by rw [List.length_append]; rfl
    have e7 : other.map D.int ++ [D.int v] = (other ++ [v]).map .int := by rw [List.map_append]; rfl
    simp_all_arith! [e7]
    refine ⟨by omega, ?_⟩
    refine hj n hn _ _ _ _ ⟨one, other ++ [v], rfl, h1, by omega, by omega, by omega, ?_⟩
    simp_all_arith! [atI_0, hsl]
    refine ⟨by omega, by omega, ?_⟩
    simp_all_arith! [Int.toNat_natCast]
    rw [rangeD_map]
    refine comp_filterL (fun k : Nat => decide (at0 (sumsL one other) k < at0 (sumsL one (other ++ [v])) k)) (fun k : Nat => .int ((k : Nat) : Int)) nD (by rw [List.length_range]; show _ ≤ 2 ^ 24; omega) (fun k hk K hK => ?_) ?_
    · have hk := List.mem_range.mp hk
      simp_all_arith! [at_int (show k < (sumsL one (other ++ [v])).length by rw [sumsL_len]; omega), at_int (show k < (sumsL one other).length by omega)]
      by_cases c : at0 (sumsL one other) k < at0 (sumsL one (other ++ [v])) k
      · rw [if_pos (decide_eq_true c)] at hK
        rw [if_pos c]; exact hK
      · rw [if_neg (by rw [decide_eq_true_iff]; exact c)] at hK
        rw [if_neg c]; exact hK
    have z2 : (List.range (one.length + other.length - 1)).filter (fun k : Nat => decide (at0 (sumsL one other) k < at0 (sumsL one (other ++ [v])) k)) = [] := List.filter_eq_nil_iff.mpr fun k hk => by
      have hk := List.mem_range.mp hk
      rw [decide_eq_true_iff, at_sums hk, at_sums (by omega)]
      have := sum_longer h1 h2 v hk
      omega
    rw [z2]
    simp_all_arith! []
    exact ⟨nD_Cmp [], C3, sub_refl _, k C3 hD3⟩
theorem law_ok (hd : Sp tb "_law_draw" 1 DrawR) (hk : Sp tb "_law_deck" 1 DeckR) (hz : Sp tb "_law_size" 2 SizeR) (hr : Sp tb "_law_row" 3 RowR) (hj : Sp tb "joined" 16 (JoinR 6)) (ht : Sp tb "_law_two_right" 17 TwoR) (hn : 17 ≤ n)
    {ns : List Int} (hl : ns.length ≤ 63) (k : ∀ C', P (.bl true) C') : denF ⟨Gm tb n, ex⟩ ilaw [.scr (ns.map .int)] C P := by
  refine ⟨rfl, ?_⟩
  simp_all_arith! [ilaw]
  refine hk n (by omega) _ _ _ _ ⟨ns, rfl, hl, fun a b C0 hD0 => ?_⟩
  simp_all_arith! [rangeD_map]
  refine for_m (fun i : Nat => .int (i : Int)) [2, 3, 4, 5, 6, 7, 8, 9] (fun _ ys C' => ∃ x2 x3 x4 x5 x6 x7 x8 x9, ys = [x2, x3, x4, x5, x6, x7, x8, x9] ∧ Deck a b C') [none, none, none, none, none, none, none, none] rfl
    ⟨_, _, _, _, _, _, _, _, rfl, hD0⟩ (fun done x rest ys C1 e ⟨x2, x3, x4, x5, x6, x7, x8, x9, hy, hD1⟩ nx knx => ?_) fun ys C1 ⟨x2, x3, x4, x5, x6, x7, x8, x9, hy, hD1⟩ => ?_
  · subst hy
    simp_all_arith! [rangeD_map]
    refine comp_all (α := Int) (fun C' => Deck a b C') (fun _ => True) .int (by rw [List.length_map, List.length_range]; decide) hD1 (fun d _ C5 hD5 K kk => ?_) fun ys C6 hyl _ hD6 => ?_
    · simp_all_arith! []
      exact use_draw hd (by omega) hD5 (by decide) (by decide) fun v C7 _ _ hD7 _ => kk _ _ trivial hD7
    · simp_all_arith! []
      refine comp_all (α := List Int) (fun C' => Deck a b C') (fun xs => 1 ≤ xs.length ∧ xs.length ≤ 20) iD (by rw [List.length_map, hyl, List.length_map, List.length_range]; decide) hD6 (fun d hd' C5 hD5 K kk => ?_) fun rows C7 hrl hrow hD7 => ?_
      · obtain ⟨q, _, rfl⟩ := List.mem_map.mp hd'
        simp_all_arith! []
        refine hz n (by omega) _ _ _ _ ⟨a, b, rfl, hD5, fun m C8 m0 m1 hD8 _ => ?_⟩
        simp_all_arith! []
        exact hr n (by omega) _ _ _ _ ⟨a, b, q, m, rfl, hD8, m0, by omega, fun xs C9 hx hD9 _ => kk xs C9 ⟨by omega, by omega⟩ hD9⟩
      · rw [List.length_map, hyl, List.length_map, List.length_range] at hrl
        match rows, hrl, hrow with
        | [one, other, third], _, hrow =>
          obtain ⟨a1, a2⟩ := hrow one (by simp)
          obtain ⟨b1, b2⟩ := hrow other (by simp)
          obtain ⟨c1, c2⟩ := hrow third (by simp)
          have l1 := sumsL_len one other
          have l2 := sumsL_len other third
          have l3 := sumsL_len third one
          simp_all_arith! []
          refine ht n hn _ _ _ _ ⟨a, b, one, other, rfl, hD7, a1, a2, b1, b2, fun C8 hD8 => ?_⟩
          simp_all_arith! []
          refine hj n (by omega) _ _ _ _ ⟨one, other, rfl, a1, b1, by omega, by omega, ?_⟩
          simp_all_arith! [atI_0]
          refine hj n (by omega) _ _ _ _ ⟨sumsL one other, third, rfl, by omega, c1, by omega, by omega, ?_⟩
          simp_all_arith! [atI_0]
          refine hj n (by omega) _ _ _ _ ⟨other, third, rfl, b1, c1, by omega, by omega, ?_⟩
          simp_all_arith! [atI_0]
          refine hj n (by omega) _ _ _ _ ⟨one, sumsL other third, rfl, a1, by omega, by omega, by omega, ?_⟩
          have e1 := sums3 a1 b1 c1
          simp_all_arith! [atI_0, e1]
          refine hj n (by omega) _ _ _ _ ⟨third, one, rfl, c1, a1, by omega, by omega, ?_⟩
          simp_all_arith! [atI_0]
          refine hj n (by omega) _ _ _ _ ⟨other, sumsL third one, rfl, b1, by omega, by omega, by omega, ?_⟩
          have e2 : sumsL other (sumsL third one) = sumsL one (sumsL other third) := by
            rw [← sums3 b1 c1 a1, sums_comm a1 (by omega)]
          simp_all_arith! [atI_0, e2]
          exact knx [_, _, _, _, _, _, _, _] _ ⟨_, _, _, _, _, _, _, _, rfl, hD8⟩
  · subst hy
    simp_all_arith! []
    exact ⟨C1, sub_refl _, k _⟩
end
theorem law_true (ns : List Int) (hl : ns.length ≤ 63) : Gm tabD 20 "law" [.scr (ns.map .int)] (fun _ => none) (fun d _ => d = .bl true) exF := by
  have hd : Sp tabD "_law_draw" 1 DrawR := R27.sp_draw rfl
  have hk : Sp tabD "_law_deck" 1 DeckR := sp_deck rfl
  have hu : Sp tabD "_law_number" 2 NumR := sp_number hd rfl
  have hz : Sp tabD "_law_size" 2 SizeR := sp_size hd rfl
  have hb : Sp tabD "_law_bent_row" 2 BentR := sp_bent hd rfl
  have hr : Sp tabD "_law_row" 3 RowR := sp_row hd hu hb rfl
  have T : LkTab tabD := ⟨rfl, rfl, rfl, rfl, rfl, rfl, rfl, rfl, rfl, rfl⟩
  have ha : Sp tabD "stretch_at" 1 AtR := sp_at rfl
  have hf := sp_firsts (d := 6) T rfl (sp_up rfl) (sp_for ha rfl) (sp_all ha rfl) rfl
  have hj : Sp tabD "joined" 16 (JoinR 6) := sp_joined hf rfl
  have ht : Sp tabD "_law_two_right" 17 TwoR := sp_two hd hu hj (sp_last rfl) (sp_moved rfl) rfl
  have hw : Sp tabD "law" 18 (fun ds C P => ∃ ns : List Int, ds = [.scr (ns.map .int)] ∧ ns.length ≤ 63 ∧ ∀ C', P (.bl true) C') := sp_mk (k := 17) rfl fun n hn ds C P ex ⟨ns, e, hl, k⟩ => by subst e; exact law_ok hd hk hz hr hj ht hn hl k
  exact hw 20 (by omega) _ _ _ _ ⟨ns, rfl, hl, fun _ => rfl⟩
end M61.k27

set_option Elab.async false
set_option linter.all false
set_option autoImplicit false
set_option maxRecDepth 100000
open PySem PySem.W PyProof.Rows in
set_option maxRecDepth 100000 in
set_option maxHeartbeats 0 in
theorem PySem.Challenge.cw_bendtables_k27_rows_joined_put_otherwise_holds : PySem.Challenge.rw_bendtables_k27_rows_joined_put_otherwise.Holds := by
  w_on; o_law; k_head; (case hw => w_witness2)
  k_fill
  refine M61.walk_ofGT (l := PySem.Challenge.rw_bendtables_k27_rows_joined_put_otherwise) (n := 63) (k := 20) (x := "_law_script") (CX := fun _ => L2.CX0) (sp := fun w => M61.spOf _ fun ds C Q => M61.Gm (M61.defsOf M61.k27.tab) 20 "law" ds C Q M61.exF) rfl (by decide) rfl ⟨rfl, by decide, by decide⟩ (fun w h Y => PySem.W.km_in_of Y) ?F (fun _ H a ns hl hT hS => M61.start_of hT hS (M61.k27.law_lift (M61.k27.law_true ns hl))) (fun _ _ _ _ _ h => h)
  case F =>
    intro w mg fa h Y KX G hmg
    have tt := PySem.W.km_tabs_of Y
    have eT := M61.tabs_one KX rfl
    refine' M61.k27.law_mk KX G hmg (M61.k27.all_mk (w := w) KX G ?ac0 ?pg0 ?hd0 ?po0 ?sa0 ?mk0 ?kc0 ?nf0 ?nf1 ?nf2 ?nf3 ?nf4 ?a0 ?i0 ?l0 ?c0 ?k0 ?a1 ?i1 ?l1 ?c1 ?k1 ?a2 ?i2 ?l2 ?c2 ?k2 ?a3 ?i3 ?l3 ?c3 ?k3 ?a5 ?l5 ?c5 ?k5 ?a6 ?l6 ?c6 ?k6 ?a7 ?l7 ?c7 ?k7 ?a8 ?l8 ?c8 ?k8 ?a9 ?l9 ?c9 ?k9 ?a10 ?l10 ?c10 ?k10 ?a11 ?l11 ?c11 ?k11 ?a12 ?l12 ?c12 ?k12 ?a13 ?l13 ?c13 ?k13 ?a15 ?l15 ?c15 ?k15 ?a16 ?l16 ?c16 ?k16 ?a17 ?l17 ?c17 ?k17 ?a18 ?l18 ?c18 ?k18 ?a19 ?l19 ?c19 ?k19 ?a20 ?l20 ?c20 ?k20 ?a21 ?l21 ?c21 ?k21 ?a22 ?l22 ?c22 ?k22 ?a23 ?l23 ?c23 ?k23 ?a24 ?l24 ?c24 ?k24 ?a25 ?l25 ?c25 ?k25 ?a26 ?l26 ?c26 ?k26 ?tk0 ?z0 ?z1 ?z2 ?z3 ?z4 ?z5 ?z6 ?z7 ?z8 ?z9 ?z10 ?z11 ?z12 ?z13 ?z14 ?z15 ?z16 ?z17 ?z18 ?z19) ?a26 ?l26 ?c26 ?k26 ?hT ?nT ?hC ?hK
    (case ac0 => k_is)
    (case pg0 => k_is)
    (case hd0 => k_is)
    (case po0 => k_is)
    (case sa0 => k_is)
    (case mk0 => k_is)
    (case kc0 => k_is)
    (case nf0 => k_is)
    (case nf1 => k_is)
    (case nf2 => k_is)
    (case nf3 => k_is)
    (case nf4 => k_is)
    (case a0 => k_is)
    (case i0 => k_is)
    (case l0 => k_is)
    (case c0 => k_is)
    (case k0 => k_is)
    (case a1 => k_is)
    (case i1 => k_is)
    (case l1 => k_is)
    (case c1 => k_is)
    (case k1 => k_is)
    (case a2 => k_is)
    (case i2 => k_is)
    (case l2 => k_is)
    (case c2 => k_is)
    (case k2 => k_is)
    (case a3 => k_is)
    (case i3 => k_is)
    (case l3 => k_is)
    (case c3 => k_is)
    (case k3 => k_is)
    (case a5 => k_is)
    (case l5 => k_is)
    (case c5 => k_is)
    (case k5 => k_is)
    (case a6 => k_is)
    (case l6 => k_is)
    (case c6 => k_is)
    (case k6 => k_is)
    (case a7 => k_is)
    (case l7 => k_is)
    (case c7 => k_is)
    (case k7 => k_is)
    (case a8 => k_is)
    (case l8 => k_is)
    (case c8 => k_is)
    (case k8 => k_is)
    (case a9 => k_is)
    (case l9 => k_is)
    (case c9 => k_is)
    (case k9 => k_is)
    (case a10 => k_is)
    (case l10 => k_is)
    (case c10 => k_is)
    (case k10 => k_is)
    (case a11 => k_is)
    (case l11 => k_is)
    (case c11 => k_is)
    (case k11 => k_is)
    (case a12 => k_is)
    (case l12 => k_is)
    (case c12 => k_is)
    (case k12 => k_is)
    (case a13 => k_is)
    (case l13 => k_is)
    (case c13 => k_is)
    (case k13 => k_is)
    (case a15 => k_is)
    (case l15 => k_is)
    (case c15 => k_is)
    (case k15 => k_is)
    (case a16 => k_is)
    (case l16 => k_is)
    (case c16 => k_is)
    (case k16 => k_is)
    (case a17 => k_is)
    (case l17 => k_is)
    (case c17 => k_is)
    (case k17 => k_is)
    (case a18 => k_is)
    (case l18 => k_is)
    (case c18 => k_is)
    (case k18 => k_is)
    (case a19 => k_is)
    (case l19 => k_is)
    (case c19 => k_is)
    (case k19 => k_is)
    (case a20 => k_is)
    (case l20 => k_is)
    (case c20 => k_is)
    (case k20 => k_is)
    (case a21 => k_is)
    (case l21 => k_is)
    (case c21 => k_is)
    (case k21 => k_is)
    (case a22 => k_is)
    (case l22 => k_is)
    (case c22 => k_is)
    (case k22 => k_is)
    (case a23 => k_is)
    (case l23 => k_is)
    (case c23 => k_is)
    (case k23 => k_is)
    (case a24 => k_is)
    (case l24 => k_is)
    (case c24 => k_is)
    (case k24 => k_is)
    (case a25 => k_is)
    (case l25 => k_is)
    (case c25 => k_is)
    (case k25 => k_is)
    (case a26 => k_is)
    (case l26 => k_is)
    (case c26 => k_is)
    (case k26 => k_is)
    (case z0 => k_is)
    (case z1 => k_is)
    (case z2 => k_is)
    (case z3 => k_is)
    (case z4 => k_is)
    (case z5 => k_is)
    (case z6 => k_is)
    (case z7 => k_is)
    (case z8 => k_is)
    (case z9 => k_is)
    (case z10 => k_is)
    (case z11 => k_is)
    (case z12 => k_is)
    (case z13 => k_is)
    (case z14 => k_is)
    (case z15 => k_is)
    (case z16 => k_is)
    (case z17 => k_is)
    (case z18 => k_is)
    (case z19 => k_is)
    (case tk0 => exact M61.lookup_eq eT 0 rfl (by decide))
    (case hK => intro P q h; rw [eT] at h; exact M61.tabs_in rfl h)
    (case hT => intro p hp; simp only [List.mem_cons, List.not_mem_nil, or_false] at hp; rcases hp with rfl <;> exact tt _ (by simp))
    (case nT => intro p hp; simp only [List.mem_cons, List.not_mem_nil, or_false] at hp; rcases hp with rfl <;> rfl)
    (case hC => intro p hp; simp only [List.mem_cons, List.not_mem_nil, or_false] at hp; rcases hp with rfl <;> exact PySem.W.codeHd_of_K KX rfl)

