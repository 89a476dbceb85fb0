import PyProof.Rows.All
import Wide.All
import OpenK.AllK
import Wide.FinOn
import HandS.ForMost
import HandS.WordsExc
import HandS.Lambda
import HandS.TupAny
import HandS.More
import HandS.IsInst
import HandS.TryOnly
import HandS.Style
import HandS.List
import HandS.EndOwn
import KE.KNestM
import HandS.ExcInit
import HandS.ExcField
import HandS.ClsMeth
import HandS.StrMore
import KE.KIntText
import KE.GoesRaise
import KE.GoesComp
import KE.KAsSuite
import HandS.Comp
import HandS.Exc
import PySem.Challenge.RW_wholetongue_k02_no_words
set_option Elab.async false
set_option linter.all false
set_option maxRecDepth 100000
/-! DBase: values as pure data over a frozen part of the abstract heap, and cells that are owned. Readings without addresses for data. -/
namespace DL
open PySem PySem.Spec PyProof.Rows L2

/-- data -/
inductive DV where
  | non | bl (b : Bool) | int (i : Int) | str (x : Str)
  | tup (xs : List DV) | lst (xs : List DV) | slst (xs : List DV) | stup (xs : List DV)
  | dK (kvs : List (Key × DV)) | dT (kvs : List (List Key × DV))
  | ref (a : Addr) | ty (n : String)

def Sub (F F' : Hp) : Prop := ∀ a o, F a = some o → F' a = some o
theorem Sub.refl (F : Hp) : Sub F F := fun _ _ h => h
theorem Sub.trans {F G H : Hp} (a : Sub F G) (b : Sub G H) : Sub F H := fun x o h => b x o (a x o h)
theorem Sub.upd {F : Hp} {p : Addr} {o : HO} (h : F p = none) : Sub F (upd F p o) := fun a u e => by
  rw [upd_ne (fun z => by subst z; rw [h] at e; cases e)]; exact e

theorem SqL.sub {K : PySem.W.Frag} {F F' : Hp} {a : Addr} {xs : List V} (s : Sub F F') (h : SqL K F a xs) : SqL K F' a xs := by
  rcases h with (h | ⟨o, h⟩) | h
  · exact .inl (.inl (s _ _ h))
  · exact .inl (.inr ⟨o, s _ _ h⟩)
  · exact .inr h
theorem SqT.sub {K : PySem.W.Frag} {F F' : Hp} {a : Addr} {xs : List V} (s : Sub F F') (h : SqT K F a xs) : SqT K F' a xs := by
  rcases h with (h | ⟨o, h⟩) | h
  · exact .inl (.inl (s _ _ h))
  · exact .inl (.inr ⟨o, s _ _ h⟩)
  · exact .inr h

mutual
inductive Rep (K : PySem.W.Frag) (F : Hp) : V → DV → Prop
  | non : Rep K F .non .non
  | bl (b : Bool) : Rep K F (.bl b) (.bl b)
  | int (i : Int) : Rep K F (.int i) (.int i)
  | str (x : Str) : Rep K F (.str x) (.str x)
  | ref (a : Addr) : Rep K F (.ref a) (.ref a)
  | ty (n : String) : Rep K F (.ty n) (.ty n)
  | tup {a : Addr} {vs : List V} {ds : List DV} : F a = some (.tup vs) → Reps K F vs ds → Rep K F (.ref a) (.tup ds)
  | stup {a : Addr} {vs : List V} {ds : List DV} : SqT K F a vs → Reps K F vs ds → Rep K F (.ref a) (.stup ds)
  | lst {a : Addr} {vs : List V} {ds : List DV} : F a = some (.lst vs) → Reps K F vs ds → Rep K F (.ref a) (.lst ds)
  | slst {a : Addr} {vs : List V} {ds : List DV} : SqL K F a vs → Reps K F vs ds → Rep K F (.ref a) (.slst ds)
  | dK {a : Addr} {kvs : List (Key × V)} {es : List (Key × DV)} : F a = some (.dK kvs) → RepK K F kvs es → Rep K F (.ref a) (.dK es)
  | dT {a : Addr} {kvs : List (List Key × V)} {es : List (List Key × DV)} : F a = some (.dT kvs) → RepT K F kvs es → Rep K F (.ref a) (.dT es)
inductive Reps (K : PySem.W.Frag) (F : Hp) : List V → List DV → Prop
  | nil : Reps K F [] []
  | cons {v : V} {d : DV} {vs : List V} {ds : List DV} : Rep K F v d → Reps K F vs ds → Reps K F (v :: vs) (d :: ds)
inductive RepK (K : PySem.W.Frag) (F : Hp) : List (Key × V) → List (Key × DV) → Prop
  | nil : RepK K F [] []
  | cons {k : Key} {v : V} {d : DV} {vs : List (Key × V)} {ds : List (Key × DV)} : Rep K F v d → RepK K F vs ds → RepK K F ((k, v) :: vs) ((k, d) :: ds)
inductive RepT (K : PySem.W.Frag) (F : Hp) : List (List Key × V) → List (List Key × DV) → Prop
  | nil : RepT K F [] []
  | cons {k : List Key} {v : V} {d : DV} {vs : List (List Key × V)} {ds : List (List Key × DV)} : Rep K F v d → RepT K F vs ds → RepT K F ((k, v) :: vs) ((k, d) :: ds)
end

section
variable {K : PySem.W.Frag} {F F' : Hp}
mutual
theorem Rep.mono (s : Sub F F') : ∀ {v : V} {d : DV}, Rep K F v d → Rep K F' v d
  | _, _, .non => .non
  | _, _, .bl b => .bl b
  | _, _, .int b => .int b
  | _, _, .str b => .str b
  | _, _, .ref b => .ref b
  | _, _, .ty b => .ty b
  | _, _, .tup h r => .tup (s _ _ h) (Reps.mono s r)
  | _, _, .stup h r => .stup (SqT.sub s h) (Reps.mono s r)
  | _, _, .lst h r => .lst (s _ _ h) (Reps.mono s r)
  | _, _, .slst h r => .slst (SqL.sub s h) (Reps.mono s r)
  | _, _, .dK h r => .dK (s _ _ h) (RepK.mono s r)
  | _, _, .dT h r => .dT (s _ _ h) (RepT.mono s r)
theorem Reps.mono (s : Sub F F') : ∀ {v : List V} {d : List DV}, Reps K F v d → Reps K F' v d
  | _, _, .nil => .nil
  | _, _, .cons h r => .cons (Rep.mono s h) (Reps.mono s r)
theorem RepK.mono (s : Sub F F') : ∀ {v : List (Key × V)} {d : List (Key × DV)}, RepK K F v d → RepK K F' v d
  | _, _, .nil => .nil
  | _, _, .cons h r => .cons (Rep.mono s h) (RepK.mono s r)
theorem RepT.mono (s : Sub F F') : ∀ {v : List (List Key × V)} {d : List (List Key × DV)}, RepT K F v d → RepT K F' v d
  | _, _, .nil => .nil
  | _, _, .cons h r => .cons (Rep.mono s h) (RepT.mono s r)
end
theorem Reps.len : ∀ {vs : List V} {ds : List DV}, Reps K F vs ds → vs.length = ds.length
  | _, _, .nil => rfl
  | _, _, .cons _ r => by simp [Reps.len r]
theorem Reps.get : ∀ {vs : List V} {ds : List DV} {i : Nat} {d : DV}, Reps K F vs ds → ds[i]? = some d → ∃ v, vs[i]? = some v ∧ Rep K F v d
  | _, _, _, _, .nil, e => by simp at e
  | _, _, 0, _, .cons h _, e => by simp at e; subst e; exact ⟨_, rfl, h⟩
  | _, _, i + 1, d, .cons _ r, e => by
    obtain ⟨v, h1, h2⟩ := Reps.get (i := i) (d := d) r (by simpa using e)
    exact ⟨v, by simpa using h1, h2⟩
theorem Reps.get' : ∀ {vs : List V} {ds : List DV} {i : Nat} {v : V}, Reps K F vs ds → vs[i]? = some v → ∃ d, ds[i]? = some d ∧ Rep K F v d
  | _, _, _, _, .nil, e => by simp at e
  | _, _, 0, _, .cons h _, e => by simp at e; subst e; exact ⟨_, rfl, h⟩
  | _, _, i + 1, d, .cons _ r, e => by
    obtain ⟨v, h1, h2⟩ := Reps.get' (i := i) (v := d) r (by simpa using e)
    exact ⟨v, by simpa using h1, h2⟩
theorem Reps.append : ∀ {vs ws : List V} {ds es : List DV}, Reps K F vs ds → Reps K F ws es → Reps K F (vs ++ ws) (ds ++ es)
  | _, _, _, _, .nil, h => h
  | _, _, _, _, .cons h r, q => .cons h (Reps.append r q)
theorem Reps.take : ∀ {vs : List V} {ds : List DV} (n : Nat), Reps K F vs ds → Reps K F (vs.take n) (ds.take n)
  | _, _, 0, _ => .nil
  | _, _, _ + 1, .nil => .nil
  | _, _, n + 1, .cons h r => .cons h (Reps.take n r)
theorem Reps.drop : ∀ {vs : List V} {ds : List DV} (n : Nat), Reps K F vs ds → Reps K F (vs.drop n) (ds.drop n)
  | _, _, 0, r => r
  | _, _, _ + 1, .nil => .nil
  | _, _, n + 1, .cons _ r => Reps.drop n r
theorem Reps.set {v : V} {d : DV} (h : Rep K F v d) : ∀ {vs : List V} {ds : List DV} (i : Nat), Reps K F vs ds → Reps K F (vs.set i v) (ds.set i d)
  | _, _, _, .nil => .nil
  | _, _, 0, .cons _ r => .cons h r
  | _, _, i + 1, .cons q r => .cons q (Reps.set h i r)
theorem Reps.strs : ∀ {vs : List V} {ys : List Str}, Reps K F vs (ys.map DV.str) → vs = ys.map V.str
  | _, [], .nil => rfl
  | _, y :: ys, .cons h r => by cases h; simp [Reps.strs r]
theorem Reps.of_strs : ∀ (ys : List Str), Reps K F (ys.map V.str) (ys.map DV.str)
  | [] => .nil
  | y :: ys => .cons (.str y) (Reps.of_strs ys)
theorem Reps.ints : ∀ {vs : List V} {ys : List Int}, Reps K F vs (ys.map DV.int) → vs = ys.map V.int
  | _, [], .nil => rfl
  | _, y :: ys, .cons h r => by cases h; simp [Reps.ints r]
theorem Reps.of_ints : ∀ (ys : List Int), Reps K F (ys.map V.int) (ys.map DV.int)
  | [] => .nil
  | y :: ys => .cons (.int y) (Reps.of_ints ys)
theorem Reps.flatten {vs : List V} {ds : List DV} (r : Reps K F vs ds) : ∀ n : Nat, Reps K F (List.replicate n vs).flatten (List.replicate n ds).flatten
  | 0 => .nil
  | n + 1 => by
    rw [List.replicate_succ, List.replicate_succ, List.flatten_cons, List.flatten_cons]
    exact r.append (Reps.flatten r n)
end

/-- what is owned at an address -/
inductive Cell where
  | lst (xs : List DV) | dK (kvs : List (Key × DV)) | dT (kvs : List (List Key × DV)) | ins (C : Addr) (fs : List (Str × DV)) | xd (fs : List (Str × DV)) | tbl (q : Str)
abbrev Own := Addr → Option Cell
def oset (O : Own) (a : Addr) (c : Cell) : Own := fun b => if b = a then some c else O b
def odel (O : Own) (a : Addr) : Own := fun b => if b = a then none else O b
theorem oset_same {O : Own} {a : Addr} {c : Cell} : oset O a c a = some c := by unfold oset; rw [if_pos rfl]
theorem oset_ne {O : Own} {a b : Addr} {c : Cell} (h : b ≠ a) : oset O a c b = O b := by unfold oset; rw [if_neg h]
theorem oset_oset {O : Own} {a : Addr} {c c' : Cell} : oset (oset O a c) a c' = oset O a c' := by
  funext b; unfold oset; split <;> rfl
theorem oset_none {O : Own} {a b : Addr} {c : Cell} : oset O a c b = none ↔ b ≠ a ∧ O b = none := by
  unfold oset; split
  · simp_all
  · simp_all
theorem one_ne {O : Own} {a p : Addr} {c : Cell} (h : O p = none) (e : O a = some c) : a ≠ p := by
  intro z; subst z; rw [h] at e; cases e
theorem odel_same {O : Own} {a : Addr} : odel O a a = none := by unfold odel; rw [if_pos rfl]
theorem odel_ne {O : Own} {a b : Addr} (h : b ≠ a) : odel O a b = O b := by unfold odel; rw [if_neg h]
theorem odel_oset {O : Own} {a : Addr} {c : Cell} (h : O a = none) : odel (oset O a c) a = O := by
  funext b; unfold oset odel
  by_cases e : b = a
  · subst e; simp [h]
  · simp [e]
theorem oset_comm {O : Own} {a b : Addr} {c c' : Cell} (h : a ≠ b) : oset (oset O a c) b c' = oset (oset O b c') a c := by
  funext x; unfold oset
  by_cases e : x = b
  · subst e; simp [Ne.symm h]
  · simp [e]
theorem odel_oset_ne {O : Own} {a b : Addr} {c : Cell} (h : a ≠ b) : odel (oset O a c) b = oset (odel O b) a c := by
  funext x; unfold oset odel
  by_cases e : x = b
  · subst e; simp [Ne.symm h]
  · simp [e]

def RepF (K : PySem.W.Frag) (F : Hp) : List (Str × V) → List (Str × DV) → Prop := Paired fun p q => p.1 = q.1 ∧ Rep K F p.2 q.2
theorem RepF.mono {K : PySem.W.Frag} {F F' : Hp} (s : Sub F F') : ∀ {x : List (Str × V)} {y : List (Str × DV)}, RepF K F x y → RepF K F' x y
  | _, _, .nil => .nil
  | _, _, .cons h r => .cons ⟨h.1, h.2.mono s⟩ (RepF.mono s r)

def CellAt (K : PySem.W.Frag) (F H : Hp) (a : Addr) : Cell → Prop
  | .lst ds => ∃ vs, H a = some (.lst vs) ∧ Reps K F vs ds
  | .dK es => ∃ kvs, H a = some (.dK kvs) ∧ RepK K F kvs es
  | .dT es => ∃ kvs, H a = some (.dT kvs) ∧ RepT K F kvs es
  | .ins C fs => ∃ dx fvs, H a = some (.ins C dx fvs) ∧ RepF K F fvs fs
  | .xd fs => ∃ fvs, H a = some (.xd fvs) ∧ RepF K F fvs fs
  | .tbl q => ∃ ps : Array Value, H a = some (.tbl ps) ∧ TriplesOk ps.toList ∧ ∀ (pos : Pos) (cv : Value), codeAmong pos ps.toList = some cv → ∃ c, cv = .ref c ∧ F c = some (LamX.CodeO c q)
theorem CellAt.mono {K : PySem.W.Frag} {F F' H H' : Hp} {a : Addr} {c : Cell} (s : Sub F F') (e : H' a = H a) (h : CellAt K F H a c) : CellAt K F' H' a c := by
  cases c with
  | lst ds => obtain ⟨vs, h1, h2⟩ := h; exact ⟨vs, e.trans h1, h2.mono s⟩
  | dK ds => obtain ⟨vs, h1, h2⟩ := h; exact ⟨vs, e.trans h1, h2.mono s⟩
  | dT ds => obtain ⟨vs, h1, h2⟩ := h; exact ⟨vs, e.trans h1, h2.mono s⟩
  | ins C ds => obtain ⟨dx, vs, h1, h2⟩ := h; exact ⟨dx, vs, e.trans h1, h2.mono s⟩
  | xd ds => obtain ⟨vs, h1, h2⟩ := h; exact ⟨vs, e.trans h1, h2.mono s⟩
  | tbl q => obtain ⟨ps, h1, h2, h3⟩ := h; exact ⟨ps, e.trans h1, h2, fun pos cv z => let ⟨c, e1, e2⟩ := h3 pos cv z; ⟨c, e1, s _ _ e2⟩⟩
theorem CellAt.some {K : PySem.W.Frag} {F H : Hp} {a : Addr} {c : Cell} (h : CellAt K F H a c) : ∃ o, H a = some o := by
  cases c with
  | lst ds => obtain ⟨vs, h1, h2⟩ := h; exact ⟨_, h1⟩
  | dK ds => obtain ⟨vs, h1, h2⟩ := h; exact ⟨_, h1⟩
  | dT ds => obtain ⟨vs, h1, h2⟩ := h; exact ⟨_, h1⟩
  | ins C ds => obtain ⟨dx, vs, h1, h2⟩ := h; exact ⟨_, h1⟩
  | xd ds => obtain ⟨vs, h1, h2⟩ := h; exact ⟨_, h1⟩
  | tbl q => obtain ⟨ps, h1, _⟩ := h; exact ⟨_, h1⟩

/-- a dict may be locked -/
def Lk : HO → Prop
  | .dK _ => True
  | .dT _ => True
  | _ => False
/-- an exception: its class, its fields (none: no dict) -/
abbrev DXK := Addr → Option (List (Str × DV)) → Own → Prop
/-- the written part, and what is wished of an exception that leaves -/
structure KG where
  f : PySem.W.Frag
  ed : DXK
  e : XK
instance : Coe KG PySem.W.Frag := ⟨KG.f⟩
/-- H is made of the frozen F and the owned O -/
structure RS0 (K : PySem.W.Frag) (F : Hp) (O : Own) (H : Hp) : Prop where
  fro : ∀ a o, F a = some o → H a = some o ∨ (Lk o ∧ ∃ ob, H a = some (.frz ob o))
  own : ∀ a c, O a = some c → F a = none ∧ CellAt K F H a c
/-- from one state to another: the frozen part grows, what is not owned stays -/
structure Raw (F : Hp) (O : Own) (H F' : Hp) (O' : Own) (H' : Hp) : Prop where
  sub : Sub F F'
  keep : ∀ a o, H a = some o → O a = none → H' a = some o ∧ O' a = none
  nof : ∀ a o, H a = some o → O a = none → F a = none → F' a = none
theorem Raw.refl {F : Hp} {O : Own} {H : Hp} : Raw F O H F O H := ⟨Sub.refl _, fun _ _ h1 h2 => ⟨h1, h2⟩, fun _ _ _ _ h => h⟩
theorem Raw.trans {F H F1 H1 F2 H2 : Hp} {O O1 O2 : Own} (s : Raw F O H F1 O1 H1) (t : Raw F1 O1 H1 F2 O2 H2) : Raw F O H F2 O2 H2 :=
  ⟨s.sub.trans t.sub, fun a o h1 h2 => let ⟨h3, h4⟩ := s.keep a o h1 h2; t.keep a o h3 h4, fun a o h1 h2 h3 => let ⟨h4, h5⟩ := s.keep a o h1 h2; t.nof a o h4 h5 (s.nof a o h1 h2 h3)⟩
def XAt (K : PySem.W.Frag) (F : Hp) (O : Own) (H : Hp) (d : Option Addr) : Option (List (Str × DV)) → Prop
  | none => d = none
  | some fs => ∃ dx fvs, d = some dx ∧ H dx = some (.xd fvs) ∧ F dx = none ∧ O dx = none ∧ RepF K F fvs fs
/-- the exception's dict is younger than what was there -/
def Fresh (H : Hp) (O : Own) (d : Option Addr) : Prop := ∀ dx o, d = some dx → H dx = some o → O dx ≠ none
/-- the wish, from here on -/
def FinX0 (K : PySem.W.Frag) (ED : DXK) (E : XK) (F : Hp) (O : Own) (H : Hp) : Prop := ∀ C fs O', ED C fs O' → ∀ d H' F', Raw F O H F' O' H' → RS0 K F' O' H' → XAt K F' O' H' d fs → Fresh H O d → E (.ref C) d H'
theorem FinX0.step {K : PySem.W.Frag} {ED : DXK} {E : XK} {F H F' H' : Hp} {O O' : Own} (h : FinX0 K ED E F O H) (s : Raw F O H F' O' H') : FinX0 K ED E F' O' H' := fun C fs O1 q d H1 F1 t r x f => h C fs O1 q d H1 F1 (s.trans t) r x fun dx o e e1 e2 => let ⟨a, b⟩ := s.keep dx o e1 e2; f dx o e a b
structure RS (K : KG) (F : Hp) (O : Own) (H : Hp) : Prop where
  fro : ∀ a o, F a = some o → H a = some o ∨ (Lk o ∧ ∃ ob, H a = some (.frz ob o))
  own : ∀ a c, O a = some c → F a = none ∧ CellAt K F H a c
  xf : FinX0 K.f K.ed K.e F O H
abbrev X0 : DXK := fun _ _ _ => False
theorem RS0.low {K : PySem.W.Frag} {F : Hp} {O : Own} {H : Hp} (r : RS0 K F O H) : RS ⟨K, X0, L2.E0⟩ F O H := ⟨r.fro, r.own, fun _ _ _ h => h.elim⟩
theorem RS.z {K : KG} {F : Hp} {O : Own} {H : Hp} (r : RS K F O H) : RS0 K.f F O H := ⟨r.fro, r.own⟩
section
variable {K : KG} {F F' H H' : Hp} {O O' : Own} {a p : Addr} {c : Cell}
theorem RS.plain (r : RS K F O H) {o : HO} (e : F a = some o) (n : ¬ Lk o) : H a = some o := by
  rcases r.fro a o e with h | ⟨h, _⟩
  · exact h
  · exact absurd h n
theorem RS.lst (r : RS K F O H) {vs : List V} (e : F a = some (.lst vs)) : H a = some (.lst vs) := r.plain e (fun z => z)
theorem RS.tup (r : RS K F O H) {vs : List V} (e : F a = some (.tup vs)) : H a = some (.tup vs) := r.plain e (fun z => z)
theorem RS.sqT (r : RS K F O H) {vs : List V} (h : SqT K F a vs) : SqT K H a vs := by
  rcases h with (h | ⟨o, h⟩) | h
  · exact .inl (.inl (r.plain h (fun z => z)))
  · exact .inl (.inr ⟨o, r.plain h (fun z => z)⟩)
  · exact .inr h
theorem RS.sqL (r : RS K F O H) {vs : List V} (h : SqL K F a vs) : SqL K H a vs := by
  rcases h with (h | ⟨o, h⟩) | h
  · exact .inl (.inl (r.plain h (fun z => z)))
  · exact .inl (.inr ⟨o, r.plain h (fun z => z)⟩)
  · exact .inr h
theorem RS.free (r : RS K F O H) (h : H p = none) : F p = none ∧ O p = none := by
  constructor
  · cases e : F p with
    | none => rfl
    | some o =>
      rcases r.fro p o e with z | ⟨_, ob, z⟩ <;> rw [h] at z <;> cases z
  · cases e : O p with
    | none => rfl
    | some c =>
      obtain ⟨o, z⟩ := (r.own p c e).2.some
      rw [h] at z; cases z
/-- from one state to another -/
structure Stp (K : KG) (F : Hp) (O : Own) (H F' : Hp) (O' : Own) (H' : Hp) : Prop where
  sub : Sub F F'
  rs : RS K F' O' H'
  keep : ∀ a o, H a = some o → O a = none → H' a = some o ∧ O' a = none
  nof : ∀ a o, H a = some o → O a = none → F a = none → F' a = none
theorem Stp.raw (s : Stp K F O H F' O' H') : Raw F O H F' O' H' := ⟨s.sub, s.keep, s.nof⟩
theorem RS.drop (r : RS K F O H) : RS ⟨K.f, X0, L2.E0⟩ F O H := r.z.low
/-- a step that was made without the wish -/
theorem Stp.up {ed : DXK} {e : XK} (s : Stp ⟨K.f, ed, e⟩ F O H F' O' H') (r : RS K F O H) : Stp K F O H F' O' H' := ⟨s.sub, ⟨s.rs.fro, s.rs.own, r.xf.step s.raw⟩, s.keep, s.nof⟩
theorem Stp.mk' (r : RS K F O H) (sub : Sub F F') (rs : RS0 K.f F' O' H') (keep : ∀ a o, H a = some o → O a = none → H' a = some o ∧ O' a = none) (nof : ∀ a o, H a = some o → O a = none → F a = none → F' a = none) : Stp K F O H F' O' H' :=
  ⟨sub, ⟨rs.fro, rs.own, r.xf.step ⟨sub, keep, nof⟩⟩, keep, nof⟩
theorem Stp.refl (r : RS K F O H) : Stp K F O H F O H := ⟨Sub.refl _, r, fun _ _ h1 h2 => ⟨h1, h2⟩, fun _ _ _ _ h => h⟩
theorem Stp.trans {F1 H1 F2 H2 : Hp} {O1 O2 : Own} (s : Stp K F O H F1 O1 H1) (t : Stp K F1 O1 H1 F2 O2 H2) : Stp K F O H F2 O2 H2 :=
  ⟨s.sub.trans t.sub, t.rs, fun a o h1 h2 => let ⟨h3, h4⟩ := s.keep a o h1 h2; t.keep a o h3 h4, fun a o h1 h2 h3 => let ⟨h4, h5⟩ := s.keep a o h1 h2; t.nof a o h4 h5 (s.nof a o h1 h2 h3)⟩
/-- a new frozen thing -/
theorem RS.new (r : RS K F O H) (h : H p = none) (o : HO) : Stp K F O H (upd F p o) O (upd H p o) := by
  obtain ⟨hf, ho⟩ := r.free h
  refine Stp.mk' r (Sub.upd hf) ⟨fun b u e => ?_, fun b c e => ?_⟩ (fun b u h1 h2 => ⟨by rw [upd_ne (fun z => by subst z; rw [h] at h1; cases h1)]; exact h1, h2⟩) (fun b u h1 h2 h3 => by rw [upd_ne (fun z => by subst z; rw [h] at h1; cases h1)]; exact h3)
  · by_cases hb : b = p
    · subst hb; rw [upd_same] at e ⊢; exact .inl e
    · rw [upd_ne hb] at e; rw [upd_ne hb]; exact r.fro b u e
  · have hb : b ≠ p := one_ne ho e
    obtain ⟨h1, h2⟩ := r.own b c e
    exact ⟨by rw [upd_ne hb]; exact h1, h2.mono (Sub.upd hf) (upd_ne hb)⟩
/-- a new owned thing -/
theorem RS.newO (r : RS K F O H) (h : H p = none) {o : HO} (hc : CellAt K F (upd H p o) p c) : Stp K F O H F (oset O p c) (upd H p o) := by
  obtain ⟨hf, ho⟩ := r.free h
  refine Stp.mk' r (Sub.refl _) ⟨fun b u e => ?_, fun b c e => ?_⟩ (fun b u h1 h2 => ?_) (fun _ _ _ _ h => h)
  · have hb : b ≠ p := fun z => by subst z; rw [hf] at e; cases e
    rw [upd_ne hb]; exact r.fro b u e
  · by_cases hb : b = p
    · subst hb; rw [oset_same] at e; cases e; exact ⟨hf, hc⟩
    · rw [oset_ne hb] at e
      obtain ⟨h1, h2⟩ := r.own b c e
      exact ⟨h1, h2.mono (Sub.refl _) (upd_ne hb)⟩
  · have hb : b ≠ p := fun z => by subst z; rw [h] at h1; cases h1
    exact ⟨by rw [upd_ne hb]; exact h1, by rw [oset_ne hb]; exact h2⟩
/-- an owned thing is written -/
theorem RS.write (r : RS K F O H) {c' : Cell} (h : O p = some c') {o : HO} (hc : CellAt K F (upd H p o) p c) : Stp K F O H F (oset O p c) (upd H p o) := by
  obtain ⟨hf, _⟩ := r.own p c' h
  refine Stp.mk' r (Sub.refl _) ⟨fun b u e => ?_, fun b c e => ?_⟩ (fun b u h1 h2 => ?_) (fun _ _ _ _ h => h)
  · have hb : b ≠ p := fun z => by subst z; rw [hf] at e; cases e
    rw [upd_ne hb]; exact r.fro b u e
  · by_cases hb : b = p
    · subst hb; rw [oset_same] at e; cases e; exact ⟨hf, hc⟩
    · rw [oset_ne hb] at e
      obtain ⟨h1, h2⟩ := r.own b c e
      exact ⟨h1, h2.mono (Sub.refl _) (upd_ne hb)⟩
  · have hb : b ≠ p := fun z => by subst z; rw [h] at h2; cases h2
    exact ⟨by rw [upd_ne hb]; exact h1, by rw [oset_ne hb]; exact h2⟩
theorem RS.freeze (r : RS K F O H) {o : HO} (h : O p = some c) (h1 : H p = some o) : Stp K F O H (upd F p o) (odel O p) H := by
  obtain ⟨hf, _⟩ := r.own p _ h
  refine Stp.mk' r (Sub.upd hf) ⟨fun b u e => ?_, fun b c e => ?_⟩ (fun b u h1 h2 => ⟨h1, ?_⟩) (fun b u h1 h2 h3 => by rw [upd_ne (fun z => by subst z; rw [h] at h2; cases h2)]; exact h3)
  · by_cases hb : b = p
    · subst hb; rw [upd_same] at e; cases e; exact .inl h1
    · rw [upd_ne hb] at e; exact r.fro b u e
  · have hb : b ≠ p := fun z => by subst z; rw [odel_same] at e; cases e
    rw [odel_ne hb] at e
    obtain ⟨h3, h4⟩ := r.own b c e
    exact ⟨by rw [upd_ne hb]; exact h3, h4.mono (Sub.upd hf) rfl⟩
  · by_cases hb : b = p
    · subst hb; exact odel_same
    · rw [odel_ne hb]; exact h2
/-- what is owned is let go: it is frozen from here on -/
theorem RS.freezeL (r : RS K F O H) {ds : List DV} (h : O p = some (.lst ds)) : ∃ F', Stp K F O H F' (odel O p) H ∧ Rep K F' (.ref p) (.lst ds) := by
  obtain ⟨hf, vs, h1, h2⟩ := r.own p _ h
  exact ⟨_, r.freeze h h1, .lst upd_same (h2.mono (Sub.upd hf))⟩
theorem RS.freezeK (r : RS K F O H) {ds : List (Key × DV)} (h : O p = some (.dK ds)) : ∃ F', Stp K F O H F' (odel O p) H ∧ Rep K F' (.ref p) (.dK ds) := by
  obtain ⟨hf, vs, h1, h2⟩ := r.own p _ h
  exact ⟨_, r.freeze h h1, .dK upd_same (h2.mono (Sub.upd hf))⟩
theorem RS.freezeT (r : RS K F O H) {ds : List (List Key × DV)} (h : O p = some (.dT ds)) : ∃ F', Stp K F O H F' (odel O p) H ∧ Rep K F' (.ref p) (.dT ds) := by
  obtain ⟨hf, vs, h1, h2⟩ := r.own p _ h
  exact ⟨_, r.freeze h h1, .dT upd_same (h2.mono (Sub.upd hf))⟩
end

/-! ### the readings -/
abbrev DSt := List (Option DV)
abbrev DVK := DV → Own → Prop
abbrev DTE := DSt → Own → DVK → Prop
abbrev DTT := DSt → Own → (Bool → Own → Prop) → Prop
abbrev DTA := DSt → Own → (List DV → Own → Prop) → Prop
structure DEnds where
  nx : DSt → Own → Prop
  rt : DVK
  bk : DSt → Own → Prop := fun _ _ => False
  ct : DSt → Own → Prop := fun _ _ => False
abbrev DTS := DEnds → DSt → Own → Prop
abbrev DTG := DV → DSt → Own → (DSt → Own → Prop) → Prop
abbrev DTI := DSt → Own → (List DV → Own → Prop) → Prop

def SR (K : PySem.W.Frag) (F : Hp) (σ : L2.St) (S : DSt) : Prop := σ.length = S.length ∧ ∀ (i : Nat) (d : DV), S[i]? = some (some d) → ∃ v, σ[i]? = some (some v) ∧ Rep K F v d
theorem SR.mono {K : PySem.W.Frag} {F F' : Hp} {σ : L2.St} {S : DSt} (s : Sub F F') (h : SR K F σ S) : SR K F' σ S :=
  ⟨h.1, fun i d e => let ⟨v, h1, h2⟩ := h.2 i d e; ⟨v, h1, h2.mono s⟩⟩
theorem SR.set {K : PySem.W.Frag} {F : Hp} {σ : L2.St} {S : DSt} {v : V} {d : DV} (h : SR K F σ S) (i : Nat) (r : Rep K F v d) : SR K F (σ.set i (some v)) (S.set i (some d)) := by
  refine ⟨by simp [h.1], fun j e q => ?_⟩
  by_cases hj : j = i
  · subst hj
    have hl : j < S.length := by
      have := (List.getElem?_eq_some_iff.mp q).1
      simpa using this
    rw [List.getElem?_set_self hl] at q
    cases q
    exact ⟨v, List.getElem?_set_self (by rw [h.1]; exact hl), r⟩
  · rw [List.getElem?_set_ne (Ne.symm hj)] at q ⊢
    exact h.2 j e q
theorem SR.start {K : PySem.W.Frag} {F : Hp} {vs : List V} {ds : List DV} (N : List Str) (r : Reps K F vs ds) : SR K F (start N vs) (ds.map some ++ List.replicate (N.length - ds.length) none) := by
  refine ⟨by simp [L2.start, r.len], fun i d e => ?_⟩
  by_cases hi : i < ds.length
  · rw [List.getElem?_append_left (by simpa using hi)] at e
    rw [List.getElem?_map] at e
    cases q : ds[i]? with
    | none => rw [q] at e; cases e
    | some d' =>
      rw [q] at e
      cases e
      obtain ⟨v, h1, h2⟩ := r.get q
      refine ⟨v, ?_, h2⟩
      unfold L2.start
      rw [List.getElem?_append_left (by simpa [r.len] using hi), List.getElem?_map, h1]
      rfl
  · rw [List.getElem?_append_right (by simpa using hi), List.getElem?_replicate] at e
    split at e <;> cases e

def FinE (K : KG) (F : Hp) (O : Own) (H : Hp) (Q : DVK) (VQ : VK) : Prop := ∀ d O', Q d O' → ∀ v H' F', Stp K F O H F' O' H' → Rep K F' v d → VQ v H'
def FinT (K : KG) (F : Hp) (O : Own) (H : Hp) (Q : Bool → Own → Prop) (VQ : Bool → Hp → Prop) : Prop := ∀ b O', Q b O' → ∀ H' F', Stp K F O H F' O' H' → VQ b H'
def FinA (K : KG) (F : Hp) (O : Own) (H : Hp) (Q : List DV → Own → Prop) (VQ : List V → Hp → Prop) : Prop := ∀ ds O', Q ds O' → ∀ vs H' F', Stp K F O H F' O' H' → Reps K F' vs ds → VQ vs H'
def FinS (K : KG) (F : Hp) (O : Own) (H : Hp) (Q : DSt → Own → Prop) (VQ : L2.St → Hp → Prop) : Prop := ∀ S O', Q S O' → ∀ σ' H' F', Stp K F O H F' O' H' → SR K F' σ' S → VQ σ' H'
structure FinD (K : KG) (F : Hp) (O : Own) (H : Hp) (D : DEnds) (VD : Ends) : Prop where
  nx : FinS K F O H D.nx VD.nx
  rt : FinE K F O H D.rt VD.rt
  bk : FinS K F O H D.bk VD.bk
  ct : FinS K F O H D.ct VD.ct
section
variable {K : KG} {F F' H H' : Hp} {O O' : Own}
theorem FinE.step {Q : DVK} {VQ : VK} (h : FinE K F O H Q VQ) (s : Stp K F O H F' O' H') : FinE K F' O' H' Q VQ := fun d O q v H G s' p => h d O q v H G (s.trans s') p
theorem FinT.step {Q : Bool → Own → Prop} {VQ : Bool → Hp → Prop} (h : FinT K F O H Q VQ) (s : Stp K F O H F' O' H') : FinT K F' O' H' Q VQ := fun d O q H G s' => h d O q H G (s.trans s')
theorem FinA.step {Q : List DV → Own → Prop} {VQ : List V → Hp → Prop} (h : FinA K F O H Q VQ) (s : Stp K F O H F' O' H') : FinA K F' O' H' Q VQ := fun d O q v H G s' p => h d O q v H G (s.trans s') p
theorem FinS.step {Q : DSt → Own → Prop} {VQ : L2.St → Hp → Prop} (h : FinS K F O H Q VQ) (s : Stp K F O H F' O' H') : FinS K F' O' H' Q VQ := fun d O q v H G s' p => h d O q v H G (s.trans s') p
theorem FinD.step {D : DEnds} {VD : Ends} (h : FinD K F O H D VD) (s : Stp K F O H F' O' H') : FinD K F' O' H' D VD := ⟨h.nx.step s, h.rt.step s, h.bk.step s, h.ct.step s⟩
end

def liftE (K : KG) (t : DTE) : TE := fun σ H VQ => ∃ F O S Q, RS K F O H ∧ SR K F σ S ∧ t S O Q ∧ FinE K F O H Q VQ
def liftT (K : KG) (t : DTT) : TT := fun σ H VQ => ∃ F O S Q, RS K F O H ∧ SR K F σ S ∧ t S O Q ∧ FinT K F O H Q VQ
def liftA (K : KG) (t : DTA) : TA := fun σ H VQ => ∃ F O S Q, RS K F O H ∧ SR K F σ S ∧ t S O Q ∧ FinA K F O H Q VQ
def liftS (K : KG) (t : DTS) : TS := fun VD σ H => ∃ F O S D, RS K F O H ∧ SR K F σ S ∧ t D S O ∧ FinD K F O H D VD
def liftG (K : KG) (g : DTG) : TG := fun v σ H VQ => ∃ F O S Q d, RS K F O H ∧ SR K F σ S ∧ Rep K F v d ∧ g d S O Q ∧ FinS K F O H Q VQ
/-- an iterator that yields these -/
def Yields (K : KG) (F : Hp) (J : It) (ds : List DV) : Prop := ∀ (i : Nat) (O : Own) (H F2 : Hp), Sub F F2 → RS K F2 O H →
  (∀ d, ds[i]? = some d → J.go i H ∧ ∀ x H', J.yld i H x H' → ∃ F3, Stp K F2 O H F3 O H' ∧ Rep K F3 x d) ∧ (ds.length ≤ i → J.stop i H)
def liftI (K : KG) (t : DTI) : TI := fun σ H R => ∃ F O S Q, RS K F O H ∧ SR K F σ S ∧ t S O Q ∧ ∀ ds O', Q ds O' → ∀ J H' F', Stp K F O H F' O' H' → Yields K F' J ds → R J H'

abbrev G := DXK × XK
/-- the context lets through what is wished -/

def Good (XW : DXK) (X : Cx) (g : G) : Prop := (Passes (L2.CX X.prog X.w) X g.2 ∧ (X.stack = X.env :: X.outer → Takes X (fun cls d _ H => g.2 cls d H))) ∧ ∀ C fs O, XW C fs O → g.1 C fs O
abbrev kg (X : Cx) (g : G) : KG := ⟨X.K, g.1, g.2⟩
theorem Good.pass {XW : DXK} {X : Cx} {g : G} (h : Good XW X g) : Passes (L2.CX X.prog X.w) X g.2 := h.1.1
theorem Good.takes {XW : DXK} {X : Cx} {g : G} (h : Good XW X g) (hs : X.stack = X.env :: X.outer) : Takes X (fun cls d _ H => g.2 cls d H) := h.1.2 hs
theorem good_of {XW : DXK} {X : Cx} {g : G} (t : Takes X (fun cls d _ H => g.2 cls d H)) (l : ∀ C fs O, XW C fs O → g.1 C fs O) : Good XW X g := ⟨⟨passes_call t fun _ _ _ _ h => h, fun _ => t⟩, l⟩
theorem takesL {X : Cx} : Takes X (fun cls d _ H => L2.E0 cls d H) := fun u s' ⟨_, _, _, _, _, _, _, _, _, _, _, _, _, _, _, _, w⟩ => w.elim
structure DE (XW : DXK) (X : Cx) (e : Expr) (t : DTE) : Prop where
  pe : ∀ g, Good XW X g → PE X e (liftE (kg X g) t)
structure DT (XW : DXK) (X : Cx) (e : Expr) (t : DTT) : Prop where
  pt : ∀ g, Good XW X g → PT X e (liftT (kg X g) t)
structure DW (XW : DXK) (X : Cx) (e : Expr) (t : DTT) : Prop where
  pw : ∀ g, Good XW X g → PW X e (liftT (kg X g) t)
structure DA (XW : DXK) (X : Cx) (es : List Expr) (t : DTA) : Prop where
  pa : ∀ g, Good XW X g → PA X es (liftA (kg X g) t)
structure DS (XW : DXK) (X : Cx) (st : Stmt) (t : DTS) : Prop where
  ps : ∀ g, Good XW X g → PS X st (liftS (kg X g) t)
structure DSs (XW : DXK) (X : Cx) (st : List Stmt) (t : DTS) : Prop where
  ps : ∀ g, Good XW X g → PSs X st (liftS (kg X g) t)
structure DG (XW : DXK) (X : Cx) (e : Expr) (t : DTG) : Prop where
  pg : ∀ g, Good XW X g → PG X e (liftG (kg X g) t)
structure DI (XW : DXK) (X : Cx) (tg it : Expr) (t : DTI) : Prop where
  pi : ∀ g, Good XW X g → PI X tg it (liftI (kg X g) t)

theorem PE_imp {X : Cx} {e : Expr} {t t' : TE} (h : PE X e t) (i : ∀ σ H Q, t' σ H Q → t σ H Q) : PE X e t' := ⟨fun pins s σ H Q I q => h.run pins s σ H Q I (i σ H Q q)⟩
theorem PT_imp {X : Cx} {e : Expr} {t t' : TT} (h : PT X e t) (i : ∀ σ H Q, t' σ H Q → t σ H Q) : PT X e t' := ⟨fun pins s σ H Q I q => h.run pins s σ H Q I (i σ H Q q)⟩
theorem PW_imp {X : Cx} {e : Expr} {t t' : TT} (h : PW X e t) (i : ∀ σ H Q, t' σ H Q → t σ H Q) : PW X e t' := ⟨fun w pins s σ H Q I q => h.run w pins s σ H Q I (i σ H Q q)⟩
theorem PA_imp {X : Cx} {e : List Expr} {t t' : TA} (h : PA X e t) (i : ∀ σ H Q, t' σ H Q → t σ H Q) : PA X e t' := ⟨fun p pins s σ H Q I q => h.run p pins s σ H Q I (i σ H Q q)⟩
theorem PS_imp {X : Cx} {e : Stmt} {t t' : TS} (h : PS X e t) (i : ∀ D σ H, t' D σ H → t D σ H) : PS X e t' := ⟨fun pins s σ H D I q => h.run pins s σ H D I (i D σ H q)⟩
theorem PSs_imp {X : Cx} {e : List Stmt} {t t' : TS} (h : PSs X e t) (i : ∀ D σ H, t' D σ H → t D σ H) : PSs X e t' := ⟨fun pins s σ H D I q => h.run pins s σ H D I (i D σ H q)⟩
theorem PG_imp {X : Cx} {e : Expr} {t t' : TG} (h : PG X e t) (i : ∀ v σ H Q, t' v σ H Q → t v σ H Q) : PG X e t' := ⟨fun pins s σ H v u Q I r q => h.run pins s σ H v u Q I r (i v σ H Q q)⟩
theorem PI_imp {X : Cx} {a b : Expr} {t t' : TI} (h : PI X a b t) (i : ∀ σ H Q, t' σ H Q → t σ H Q) : PI X a b t' := ⟨fun pins s σ H Q I q => h.run pins s σ H Q I (i σ H Q q)⟩
end DL

set_option Elab.async false
set_option linter.all false
set_option maxRecDepth 100000
/-! DCore: the rules over data. -/
namespace DL
open PySem PySem.Spec PyProof.Rows L2
variable {XW : DXK}

/-! ### slots, names, constants -/
def slot : DSt → Nat → Option DV
  | [], _ => none
  | x :: _, 0 => x
  | _ :: r, n + 1 => slot r n
theorem slot_get : ∀ {S : DSt} {i : Nat} {d : DV}, slot S i = some d → S[i]? = some (some d)
  | [], _, _, h => by cases h
  | x :: _, 0, _, h => by simp only [slot] at h; simp [h]
  | _ :: r, n + 1, d, h => by simpa using slot_get (S := r) (i := n) h
def onSome {α : Type} : Option α → (α → Prop) → Prop
  | some x, K => K x
  | none, _ => False
theorem onSome_ex {α : Type} {o : Option α} {K : α → Prop} (h : onSome o K) : ∃ x, o = some x ∧ K x := by
  cases o with
  | none => exact h.elim
  | some x => exact ⟨x, rfl, h⟩
theorem onSome_of {α : Type} {o : Option α} {K : α → Prop} {x : α} (e : o = some x) (h : K x) : onSome o K := by rw [e]; exact h
def dVar (i : Nat) (S : DSt) (O : Own) (Q : DVK) : Prop := onSome (slot S i) fun d => Q d O
def dC (d : DV) (u0_ : DSt) (O : Own) (Q : DVK) : Prop := Q d O
section
variable {X : Cx}
theorem dv (i : Nat) {x : Str} {pos : Pos} (hN : X.N[i]? = some x := by rfl) (hv : Vis X.env.scope x := by first | exact Or.inl rfl | exact Or.inr (Or.inl rfl) | exact Or.inr (Or.inr rfl)) (hd : (x == ("__debug__" : Str)) = false := by decide)
    (hcd : (x == ("__classdict__" : Str)) = false := by decide) : DE XW X (.Name x pos) (dVar i) := by
  refine ⟨fun g hg => PE_imp (pv i hN hv hd hcd) ?_⟩
  rintro σ H VQ ⟨F, O, S, Q, rs, sr, h, fin⟩
  obtain ⟨d, e, h⟩ := onSome_ex h
  obtain ⟨v, h1, h2⟩ := sr.2 i d (slot_get e)
  exact ⟨v, h1, fin d O h v H F (.refl rs) h2⟩
theorem DE.const {e : Expr} {v : V} {d : DV} (h : PE X e (tC v)) (r : ∀ F, Rep X.K F v d) : DE XW X e (dC d) :=
  ⟨fun g hg => PE_imp h fun σ H VQ ⟨F, O, S, Q, rs, sr, q, fin⟩ => fin d O q v H F (.refl rs) (r F)⟩
theorem de_int {i j pos} : DE XW X (.Constant (.int i) j pos) (dC (.int i)) := .const pe_int fun _ => .int i
theorem de_bl {i j pos} : DE XW X (.Constant (.bool i) j pos) (dC (.bl i)) := .const pe_bl fun _ => .bl i
theorem de_non {j pos} : DE XW X (.Constant .none j pos) (dC .non) := .const pe_non fun _ => .non
theorem de_str {i j pos} : DE XW X (.Constant (.str i) j pos) (dC (.str i)) := .const pe_str fun _ => .str i
/-- a module's constant -/
theorem de_glob {x : Str} {v : V} {d : DV} {u : Value} {pos : Pos} (hg : Gl X x) (hm : X.mg x = some u) (r : RelV v u) (rd : ∀ F, Rep X.K F v d) (hd : (x == ("__debug__" : Str)) = false := by decide) : DE XW X (.Name x pos) (dC d) := .const (pe_glob hg hm r hd) rd
theorem de_globS {x z : Str} {t : Tok} {pos : Pos} (hm : X.mg x = some (.str z t)) (hg : Gl X x := by rfl) (hd : (x == ("__debug__" : Str)) = false := by decide) : DE XW X (.Name x pos) (dC (.str z)) := de_glob (v := .str z) hg hm ⟨_, rfl⟩ (fun _ => .str z) hd
theorem de_globI {x : Str} {z : Int} {t : Tok} {pos : Pos} (hm : X.mg x = some (.int z t)) (hg : Gl X x := by rfl) (hd : (x == ("__debug__" : Str)) = false := by decide) : DE XW X (.Name x pos) (dC (.int z)) := de_glob (v := .int z) hg hm ⟨_, rfl⟩ (fun _ => .int z) hd
theorem de_globR {x : Str} {a : Addr} {d : DV} {pos : Pos} (hm : X.mg x = some (.ref a)) (r : ∀ F, Rep X.K F (.ref a) d) (hg : Gl X x := by rfl) (hd : (x == ("__debug__" : Str)) = false := by decide) : DE XW X (.Name x pos) (dC d) := de_glob (v := .ref a) hg hm rfl r hd
theorem de_blt {x : Str} {n : String} {pos : Pos} (hm : X.mg x = none) (hv : bootBuiltins x = some (.type n)) (hg : Gl X x := by rfl) (hn : x ≠ "__name__" := by decide) (hd : (x == ("__debug__" : Str)) = false := by decide) : DE XW X (.Name x pos) (dC (.ty n)) :=
  .const (pe_bltn (v := .ty n) hg hm hv rfl hn hd) fun _ => .ty n
end

/-! ### two-place operations -/
abbrev DR2 := DV → DV → Own → DVK → Prop
def dOp (r : DR2) (ta tb : DTE) (S : DSt) (O : Own) (Q : DVK) : Prop := ta S O fun x O1 => tb S O1 fun y O2 => r x y O2 Q
def liftR2 (K : KG) (r : DR2) : R2 := fun x y H VQ => ∃ F O dx dy Q, RS K F O H ∧ Rep K F x dx ∧ Rep K F y dy ∧ r dx dy O Q ∧ FinE K F O H Q VQ
theorem OpR_imp {X : Cx} {f : Value → Value → Sem Value} {r r' : R2} (h : OpR X f r) (i : ∀ x y H Q, r' x y H Q → r x y H Q) : OpR X f r' :=
  fun pins s σ H x y v u Q I rx ry q => h pins s σ H x y v u Q I rx ry (i x y H Q q)
structure OpD (X : Cx) (f : Value → Value → Sem Value) (r : DR2) : Prop where
  op : ∀ g : G, OpR X f (liftR2 (kg X g) r)
theorem liftOp {K : KG} {r : DR2} {ta tb : DTE} {σ : L2.St} {H : Hp} {VQ : VK} (h : liftE K (dOp r ta tb) σ H VQ) : tOp (liftR2 K r) (liftE K ta) (liftE K tb) σ H VQ := by
  obtain ⟨F, O, S, Q, rs, sr, h, fin⟩ := h
  exact ⟨F, O, S, _, rs, sr, h, fun dx O1 h1 x H1 F1 s1 rx => ⟨F1, O1, S, _, s1.rs, sr.mono s1.sub, h1, fun dy O2 h2 y H2 F2 s2 ry => ⟨F2, O2, dx, dy, Q, s2.rs, rx.mono s2.sub, ry, h2, fin.step (s1.trans s2)⟩⟩⟩
section
variable {X : Cx} {a b : Expr} {ta tb : DTE} {pos : Pos} {r : DR2}
theorem de_op {op : Operator} (ho : OpD X (binaryOp op) r) (ha : DE XW X a ta) (hb : DE XW X b tb) : DE XW X (.BinOp a op b pos) (dOp r ta tb) :=
  ⟨fun g hg => PE_imp (pe_op (ho.op g) (ha.pe g hg) (hb.pe g hg)) fun _ _ _ h => liftOp h⟩
theorem de_cmp {op : CmpOp} (ho : OpD X (compareOp op) r) (ha : DE XW X a ta) (hb : DE XW X b tb) (hm : behindInMarks op b = false := by first | exact nomark _ | rfl | with_unfolding_all rfl) : DE XW X (.Compare a [op] [b] pos) (dOp r ta tb) :=
  ⟨fun g hg => PE_imp (pe_cmpR (ho.op g) (ha.pe g hg) (hb.pe g hg) hm) fun _ _ _ h => liftOp h⟩
/-- a bool as a test -/
def kBl (Q : Bool → Own → Prop) : DV → Own → Prop
  | .bl b, O => Q b O
  | _, _ => False
def dTest (t : DTE) (S : DSt) (O : Own) (Q : Bool → Own → Prop) : Prop := t S O (kBl Q)
theorem liftTest {K : KG} {t : DTE} {σ : L2.St} {H : Hp} {VQ : Bool → Hp → Prop} (h : liftT K (dTest t) σ H VQ) : tTest (liftE K t) σ H VQ := by
  obtain ⟨F, O, S, Q, rs, sr, h, fin⟩ := h
  refine ⟨F, O, S, _, rs, sr, h, fun d O1 h1 v H1 F1 s1 rv => ?_⟩
  cases rv with
  | bl b => exact ⟨b, rfl, fin b O1 h1 H1 F1 s1⟩
  | _ => exact h1.elim
theorem dt_cmp {op : CmpOp} (ho : OpD X (compareOp op) r) (ha : DE XW X a ta) (hb : DE XW X b tb) (hm : behindInMarks op b = false := by first | exact nomark _ | rfl | with_unfolding_all rfl) : DT XW X (.Compare a [op] [b] pos) (dTest (dOp r ta tb)) := by
  refine ⟨fun g hg => PT_imp (pt_cmpR (ho.op g) (ha.pe g hg) (hb.pe g hg) hm) fun σ H VQ h => ?_⟩
  obtain ⟨F, O, S, Q, rs, sr, h, fin⟩ := h
  refine liftOp ⟨F, O, S, _, rs, sr, h, fun d O1 h1 v H1 F1 s1 rv => ?_⟩
  cases rv with
  | bl b => exact ⟨b, rfl, fin b O1 h1 H1 F1 s1⟩
  | _ => exact h1.elim
end

/-- a list that is read: frozen or owned -/
def lstOf (O : Own) : DV → Option (List DV)
  | .lst xs => some xs
  | .ref a => match O a with
    | some (.lst xs) => some xs
    | _ => none
  | _ => none
/-- any sequence -/
def seqOf (O : Own) : DV → Option (List DV)
  | .lst xs => some xs
  | .slst xs => some xs
  | .tup xs => some xs
  | .stup xs => some xs
  | .ref a => match O a with
    | some (.lst xs) => some xs
    | _ => none
  | _ => none
/-- an owned cell that is a list .. -/
def onL : Option Cell → (List DV → Prop) → Prop
  | some (.lst xs), K => K xs
  | _, _ => False
def lstQ (O : Own) : DV → (List DV → Prop) → Prop
  | .lst xs, K => K xs
  | .ref a, K => onL (O a) K
  | _, _ => False
def seqQ (O : Own) : DV → (List DV → Prop) → Prop
  | .lst xs, K => K xs
  | .slst xs, K => K xs
  | .tup xs, K => K xs
  | .stup xs, K => K xs
  | .ref a, K => onL (O a) K
  | _, _ => False
theorem onL_ex {c : Option Cell} {K : List DV → Prop} (h : onL c K) : ∃ xs, c = some (.lst xs) ∧ K xs := by
  unfold onL at h
  split at h
  · exact ⟨_, rfl, h⟩
  · exact h.elim
theorem lstQ_ex {O : Own} {d : DV} {K : List DV → Prop} (h : lstQ O d K) : ∃ xs, lstOf O d = some xs ∧ K xs := by
  unfold lstQ at h
  split at h
  · exact ⟨_, rfl, h⟩
  · rename_i a
    obtain ⟨xs, e, h⟩ := onL_ex h
    exact ⟨xs, by simp [lstOf, e], h⟩
  · exact h.elim
theorem seqQ_ex {O : Own} {d : DV} {K : List DV → Prop} (h : seqQ O d K) : ∃ xs, seqOf O d = some xs ∧ K xs := by
  unfold seqQ at h
  split at h
  · exact ⟨_, rfl, h⟩
  · exact ⟨_, rfl, h⟩
  · exact ⟨_, rfl, h⟩
  · exact ⟨_, rfl, h⟩
  · rename_i a
    obtain ⟨xs, e, h⟩ := onL_ex h
    exact ⟨xs, by simp [seqOf, e], h⟩
  · exact h.elim
theorem lstOf_at {K : KG} {F H : Hp} {O : Own} {v : V} {d : DV} {xs : List DV} (rs : RS K F O H) (r : Rep K F v d) (h : lstOf O d = some xs) : ∃ a vs, v = .ref a ∧ H a = some (.lst vs) ∧ Reps K F vs xs := by
  cases r with
  | lst e r => cases h; exact ⟨_, _, rfl, rs.lst e, r⟩
  | ref a =>
    simp only [lstOf] at h
    split at h
    · rename_i ys e
      cases h
      obtain ⟨_, vs, h1, h2⟩ := rs.own a _ e
      exact ⟨a, vs, rfl, h1, h2⟩
    · cases h
  | _ => cases h
theorem seqOf_at {K : KG} {F H : Hp} {O : Own} {v : V} {d : DV} {xs : List DV} (rs : RS K F O H) (r : Rep K F v d) (h : seqOf O d = some xs) : ∃ a vs, v = .ref a ∧ (SqL K H a vs ∨ SqT K H a vs) ∧ Reps K F vs xs := by
  cases r with
  | lst e r => cases h; exact ⟨_, _, rfl, .inl (SqL.of (rs.lst e)), r⟩
  | slst e r => cases h; exact ⟨_, _, rfl, .inl (rs.sqL e), r⟩
  | tup e r => cases h; exact ⟨_, _, rfl, .inr (SqT.of (rs.tup e)), r⟩
  | stup e r => cases h; exact ⟨_, _, rfl, .inr (rs.sqT e), r⟩
  | ref a =>
    simp only [seqOf] at h
    split at h
    · rename_i ys e
      cases h
      obtain ⟨_, vs, h1, h2⟩ := rs.own a _ e
      exact ⟨a, vs, rfl, .inl (SqL.of h1), h2⟩
    · cases h
  | _ => cases h

/-! ### + - * // % -/
def dAdd : DV → DV → Own → DVK → Prop
  | .int i, .int j, O, Q => Q (.int (i + j)) O
  | .int i, .bl k, O, Q => Q (.int (i + b2i k)) O
  | .str a, .str b, O, Q => a.length + b.length ≤ sizeLine ∧ Q (.str (a ++ b)) O
  | .tup xs, .tup ys, O, Q => xs.length + ys.length ≤ sizeLine ∧ Q (.tup (xs ++ ys)) O
  | .lst xs, .lst ys, O, Q => xs.length + ys.length ≤ sizeLine ∧ Q (.lst (xs ++ ys)) O
  | .ref a, y, O, Q => onL (O a) fun xs => lstQ O y fun ys => xs.length + ys.length ≤ sizeLine ∧ Q (.lst (xs ++ ys)) O
  | .lst xs, .ref b, O, Q => onL (O b) fun ys => xs.length + ys.length ≤ sizeLine ∧ Q (.lst (xs ++ ys)) O
  | _, _, _, _ => False
theorem od_add {X : Cx} : OpD X (binaryOp .Add) dAdd := by
  refine ⟨fun g => OpR_imp (((op_add.or op_add_str).or (op_cat.or op_catA)).or op_add_ib) ?_⟩
  rintro x y H VQ ⟨F, O, dx, dy, Q, rs, rx, ry, h, fin⟩
  have fl : ∀ {x y : V} {dx dy : DV} {xs ys : List DV}, Rep X.K F x dx → Rep X.K F y dy → lstOf O dx = some xs → lstOf O dy = some ys → xs.length + ys.length ≤ sizeLine ∧ Q (.lst (xs ++ ys)) O →
      ((rI0 (fun i j => V.int (i + j)) x y H VQ ∨ (∃ i j, x = .str i ∧ y = .str j ∧ i.length + j.length ≤ sizeLine ∧ VQ (.str (i ++ j)) H)) ∨ (rCat x y H VQ ∨ rCatA X.K x y H VQ)) ∨ (∃ i k, x = .int i ∧ y = .bl k ∧ VQ (.int (i + b2i k)) H) := by
    intro x y dx dy xs ys rx ry e1 e2 h
    obtain ⟨a, vs, rfl, h1, r1⟩ := lstOf_at rs rx e1
    obtain ⟨b, ws, rfl, h2, r2⟩ := lstOf_at rs ry e2
    refine .inl (.inr (.inl ⟨a, b, vs, ws, rfl, rfl, h1, h2, by rw [r1.len, r2.len]; exact h.1, fun p hp => ?_⟩))
    have s := rs.new hp (.lst (vs ++ ws))
    exact fin _ _ h.2 _ _ _ s (.lst upd_same ((r1.mono s.sub).append (r2.mono s.sub)))
  unfold dAdd at h
  split at h
  · cases rx; cases ry
    exact .inl (.inl (.inl ⟨_, _, rfl, rfl, fin _ _ h _ _ F (.refl rs) (.int _)⟩))
  · cases rx; cases ry
    exact .inr ⟨_, _, rfl, rfl, fin _ _ h _ _ F (.refl rs) (.int _)⟩
  · cases rx; cases ry
    exact .inl (.inl (.inr ⟨_, _, rfl, rfl, h.1, fin _ _ h.2 _ _ F (.refl rs) (.str _)⟩))
  · rename_i xs ys
    cases rx with | @tup a vs _ e1 r1 => cases ry with | @tup b ws _ e2 r2 =>
    refine .inl (.inr (.inr ⟨a, b, vs, ws, rfl, rfl, SqT.of (rs.tup e1), SqT.of (rs.tup e2), by rw [r1.len, r2.len]; exact h.1, fun z => ?_, fun _ z => ?_, fun _ _ p hp => ?_⟩))
    · subst z; cases r1
      exact fin _ _ h.2 _ _ F (.refl rs) (.tup e2 r2)
    · subst z; cases r2
      have := h.2; rw [List.append_nil] at this
      exact fin _ _ this _ _ F (.refl rs) (.tup e1 r1)
    · have s := rs.new hp (.tup (vs ++ ws))
      exact fin _ _ h.2 _ _ _ s (.tup upd_same ((r1.mono s.sub).append (r2.mono s.sub)))
  · rename_i xs ys
    exact fl (xs := xs) (ys := ys) rx ry rfl rfl h
  · rename_i a y
    obtain ⟨xs, e1, h⟩ := onL_ex h
    obtain ⟨ys, e2, h⟩ := lstQ_ex h
    exact fl rx ry (by simp [lstOf, e1]) e2 h
  · rename_i xs b
    obtain ⟨ys, e2, h⟩ := onL_ex h
    exact fl (xs := xs) rx ry rfl (by simp [lstOf, e2]) h
  · exact h.elim
def dI2 (C : Int → Int → Prop) (g : Int → Int → DV) : DV → DV → Own → DVK → Prop
  | .int i, .int j, O, Q => C i j ∧ Q (g i j) O
  | _, _, _, _ => False
theorem od_I {X : Cx} {f : Value → Value → Sem Value} {C : Int → Int → Prop} {g : Int → Int → Int} (h : OpR X f (rI C fun i j => .int (g i j))) : OpD X f (dI2 C fun i j => .int (g i j)) := by
  refine ⟨fun g => OpR_imp h ?_⟩
  rintro x y H VQ ⟨F, O, dx, dy, Q, rs, rx, ry, h, fin⟩
  unfold dI2 at h
  split at h
  · cases rx; cases ry
    exact ⟨_, _, rfl, rfl, h.1, fin _ _ h.2 _ _ F (.refl rs) (.int _)⟩
  · exact h.elim
def dSub : DV → DV → Own → DVK → Prop
  | .int i, .int j, O, Q => Q (.int (i - j)) O
  | _, _, _, _ => False
theorem od_sub {X : Cx} : OpD X (binaryOp .Sub) dSub := by
  refine ⟨fun g => OpR_imp op_sub ?_⟩
  rintro x y H VQ ⟨F, O, dx, dy, Q, rs, rx, ry, h, fin⟩
  unfold dSub at h
  split at h
  · cases rx; cases ry
    exact ⟨_, _, rfl, rfl, fin _ _ h _ _ F (.refl rs) (.int _)⟩
  · exact h.elim
theorem od_mod {X : Cx} : OpD X (binaryOp .Mod) (dI2 (fun _ j => 0 < j) fun i j => .int (i % j)) := od_I op_mod
theorem od_fdiv {X : Cx} : OpD X (binaryOp .FloorDiv) (dI2 CDiv fun i j => .int (i / j)) := od_I op_fdiv
theorem od_pow {X : Cx} : OpD X (binaryOp .Pow) (dI2 CPow fun i j => .int (i ^ j.toNat)) := od_I op_pow
theorem od_mul {X : Cx} : OpD X (binaryOp .Mult) (dI2 CMul fun i j => .int (i * j)) := od_I op_mul

/-! ### comparisons -/
def dCmpI (p : Int → Int → Bool) : DV → DV → Own → DVK → Prop
  | .int i, .int j, O, Q => Q (.bl (p i j)) O
  | _, _, _, _ => False
theorem od_C {X : Cx} {f : Value → Value → Sem Value} {p : Int → Int → Bool} (h : OpR X f (rI0 fun i j => .bl (p i j))) : OpD X f (dCmpI p) := by
  refine ⟨fun g => OpR_imp h ?_⟩
  rintro x y H VQ ⟨F, O, dx, dy, Q, rs, rx, ry, h, fin⟩
  unfold dCmpI at h
  split at h
  · cases rx; cases ry
    exact ⟨_, _, rfl, rfl, fin _ _ h _ _ F (.refl rs) (.bl _)⟩
  · exact h.elim
theorem od_lt {X : Cx} : OpD X (compareOp .Lt) (dCmpI fun i j => decide (i < j)) := od_C op_lt
theorem od_le {X : Cx} : OpD X (compareOp .LtE) (dCmpI fun i j => decide (i ≤ j)) := od_C op_le
theorem od_gt {X : Cx} : OpD X (compareOp .Gt) (dCmpI fun i j => decide (j < i)) := od_C op_gt
theorem od_ge {X : Cx} : OpD X (compareOp .GtE) (dCmpI fun i j => decide (j ≤ i)) := od_C op_ge
mutual
def toPy : DV → Option PyData
  | .non => some .none
  | .bl b => some (.bool b)
  | .int i => some (.int i)
  | .str x => some (.str x)
  | .tup xs => match toPys xs with
    | some ps => some (.tuple ps)
    | none => none
  | .stup xs => match toPys xs with
    | some ps => some (.tuple ps)
    | none => none
  | .lst xs => match toPys xs with
    | some ps => some (.list ps)
    | none => none
  | _ => none
def toPys : List DV → Option (List PyData)
  | [] => some []
  | x :: r => match toPy x, toPys r with
    | some p, some ps => some (p :: ps)
    | _, _ => none
end
mutual
theorem dp_of {K : KG} {F H : Hp} {O : Own} (rs : RS K F O H) : ∀ {v : V} {d : DV} {p : PyData}, Rep K F v d → toPy d = some p → Dp K H v p
  | _, _, _, .non, h => by cases h; exact .non
  | _, _, _, .bl b, h => by cases h; exact .bl b
  | _, _, _, .int b, h => by cases h; exact .int b
  | _, _, _, .str b, h => by cases h; exact .str b
  | _, _, _, .ref _, h => by cases h
  | _, _, _, .ty _, h => by cases h
  | _, _, _, .tup e r, h => by
    unfold toPy at h
    split at h
    · rename_i ps q; cases h; exact .tup (SqT.of (rs.tup e)) (dps_of rs r q)
    · cases h
  | _, _, _, .stup e r, h => by
    unfold toPy at h
    split at h
    · rename_i ps q; cases h; exact .tup (rs.sqT e) (dps_of rs r q)
    · cases h
  | _, _, _, .lst e r, h => by
    unfold toPy at h
    split at h
    · rename_i ps q; cases h; exact .lst (SqL.of (rs.lst e)) (dps_of rs r q)
    · cases h
  | _, _, _, .slst _ _, h => by cases h
  | _, _, _, .dK _ _, h => by cases h
  | _, _, _, .dT _ _, h => by cases h
theorem dps_of {K : KG} {F H : Hp} {O : Own} (rs : RS K F O H) : ∀ {v : List V} {d : List DV} {p : List PyData}, Reps K F v d → toPys d = some p → DpAll K H v p
  | _, _, _, .nil, h => by cases h; exact .nil
  | _, _, _, .cons r q, h => by
    unfold toPys at h
    split at h
    · rename_i p ps e1 e2; cases h; exact .cons (dp_of rs r e1) (dps_of rs q e2)
    · cases h
end
/-- x == y of data at any depth -/
def dEqP (neg : Bool) (x y : DV) (O : Own) (Q : DVK) : Prop := onSome (toPy x) fun p => onSome (toPy y) fun q => SeqAt.shaped p = true ∧ SeqAt.shaped q = true ∧ Q (.bl (if neg then !PyData.eqv p q else PyData.eqv p q)) O
/-- x == y -/
def dEq (neg : Bool) : DV → DV → Own → DVK → Prop
  | .int i, .int j, O, Q => Q (.bl (if neg then !decide (i = j) else decide (i = j))) O
  | .str i, .str j, O, Q => Q (.bl (if neg then !decide (i = j) else decide (i = j))) O
  | .bl i, .bl j, O, Q => Q (.bl (if neg then !decide (i = j) else decide (i = j))) O
  | .lst xs, y, O, Q => dEqP neg (.lst xs) y O Q
  | .tup xs, y, O, Q => dEqP neg (.tup xs) y O Q
  | .stup xs, y, O, Q => dEqP neg (.stup xs) y O Q
  | .non, y, O, Q => dEqP neg .non y O Q
  | .int i, .non, O, Q => dEqP neg (.int i) .non O Q
  | .int i, .str y, O, Q => dEqP neg (.int i) (.str y) O Q
  | .int i, .tup y, O, Q => dEqP neg (.int i) (.tup y) O Q
  | .int i, .lst y, O, Q => dEqP neg (.int i) (.lst y) O Q
  | .str i, .non, O, Q => dEqP neg (.str i) .non O Q
  | .str i, .int y, O, Q => dEqP neg (.str i) (.int y) O Q
  | .str i, .tup y, O, Q => dEqP neg (.str i) (.tup y) O Q
  | .str i, .lst y, O, Q => dEqP neg (.str i) (.lst y) O Q
  | _, _, _, _ => False
end DL

set_option Elab.async false
set_option linter.all false
set_option maxRecDepth 100000
/-! DMore: the rules over data, further. -/
namespace DL
open PySem PySem.Spec PyProof.Rows L2 TL
variable {XW : DXK}

theorem rep_bl {K : KG} {F : Hp} {b c : Bool} (h : b = c) : Rep K F (.bl b) (.bl c) := h ▸ .bl b
theorem dEq_ok {X : Cx} {f : Value → Value → Sem Value} (neg : Bool) (h1 : OpR X f (if neg then rNe else rEq)) (h2 : OpR X f (if neg then rNeD X.K else rEqD X.K)) : OpD X f (dEq neg) := by
  refine ⟨fun g => OpR_imp (h1.or h2) ?_⟩
  rintro x y H VQ ⟨F, O, dx, dy, Q, rs, rx, ry, h, fin⟩
  have fp : dEqP neg dx dy O Q → ((if neg then rNe else rEq) x y H VQ ∨ (if neg then rNeD X.K else rEqD X.K) x y H VQ) := by
    intro h
    obtain ⟨p, e1, h⟩ := onSome_ex h
    obtain ⟨q, e2, h⟩ := onSome_ex h
    obtain ⟨s1, s2, h⟩ := h
    have q := fin _ _ h _ _ F (.refl rs) (.bl _)
    refine .inr ?_
    cases neg
    · exact ⟨_, _, dp_of rs rx e1, dp_of rs ry e2, s1, s2, by simpa [Bool.false_eq_true] using q⟩
    · exact ⟨_, _, dp_of rs rx e1, dp_of rs ry e2, s1, s2, by simpa using q⟩
  unfold dEq at h
  split at h
  · cases rx; cases ry
    have q := fin _ _ h _ _ F (.refl rs) (.bl _)
    refine .inl ?_
    cases neg
    · exact ⟨rfl, by simpa [Bool.false_eq_true] using q⟩
    · exact ⟨rfl, by simpa using q⟩
  · cases rx; cases ry
    have q := fin _ _ h _ _ F (.refl rs) (.bl _)
    refine .inl ?_
    cases neg
    · exact ⟨rfl, by simpa [Bool.false_eq_true] using q⟩
    · exact ⟨rfl, by simpa using q⟩
  · cases rx; cases ry
    have q := fin _ _ h _ _ F (.refl rs) (.bl _)
    refine .inl ?_
    cases neg
    · exact ⟨rfl, by simpa [Bool.false_eq_true] using q⟩
    · exact ⟨rfl, by simpa using q⟩
  all_goals first | exact fp h | exact h.elim
theorem od_eq {X : Cx} (hu : X.A.units + 64 < cLine) : OpD X (compareOp .Eq) (dEq false) := dEq_ok false op_eq (op_eqD hu)
theorem od_ne {X : Cx} (hu : X.A.units + 64 < cLine) : OpD X (compareOp .NotEq) (dEq true) := dEq_ok true op_ne (op_neD hu)
/-- is None -/
def isNon : DV → Bool
  | .non => true
  | _ => false
def dIsN (neg : Bool) : DV → DV → Own → DVK → Prop
  | x, .non, O, Q => Q (.bl (if neg then !isNon x else isNon x)) O
  | _, _, _, _ => False
theorem isN_rep {K : KG} {F : Hp} {v : V} {d : DV} (r : Rep K F v d) : decide (v = .non) = isNon d := by
  cases r <;> rfl
theorem od_isN {X : Cx} : OpD X (compareOp .Is) (dIsN false) := by
  refine ⟨fun g => OpR_imp op_isN ?_⟩
  rintro x y H VQ ⟨F, O, dx, dy, Q, rs, rx, ry, h, fin⟩
  unfold dIsN at h
  split at h
  · cases ry
    refine ⟨rfl, ?_⟩
    rw [isN_rep rx]
    exact fin _ _ (by simpa using h) _ _ F (.refl rs) (.bl _)
  · exact h.elim
theorem od_notN {X : Cx} : OpD X (compareOp .IsNot) (dIsN true) := by
  refine ⟨fun g => OpR_imp op_notN ?_⟩
  rintro x y H VQ ⟨F, O, dx, dy, Q, rs, rx, ry, h, fin⟩
  unfold dIsN at h
  split at h
  · cases ry
    refine ⟨rfl, ?_⟩
    rw [isN_rep rx]
    exact fin _ _ (by simpa using h) _ _ F (.refl rs) (.bl _)
  · exact h.elim
/-! ### in -/
def flatD : DV → Bool
  | .non => true
  | .bl _ => true
  | .int _ => true
  | .str _ => true
  | _ => false
def eqF : DV → DV → Bool
  | .non, .non => true
  | .bl a, .bl b => a == b
  | .bl a, .int b => (if a then 1 else 0) == b
  | .int a, .bl b => a == (if b then 1 else 0)
  | .int a, .int b => a == b
  | .str a, .str b => a == b
  | _, _ => false
def inD (x : DV) (xs : List DV) : Bool := xs.any fun y => eqF y x
theorem flat_rep {K : KG} {F : Hp} {v : V} {d : DV} (r : Rep K F v d) (f : flatD d = true) : flatV v = true := by
  cases r <;> first | rfl | cases f
theorem flat_reps {K : KG} {F : Hp} : ∀ {v : List V} {d : List DV}, Reps K F v d → d.all flatD = true → v.all flatV = true
  | _, _, .nil, _ => rfl
  | _, _, .cons h r, f => by
    simp only [List.all_cons, Bool.and_eq_true] at f ⊢
    exact ⟨flat_rep h f.1, flat_reps r f.2⟩
theorem eqF_rep {K : KG} {F : Hp} {v w : V} {d e : DV} (r : Rep K F v d) (q : Rep K F w e) (f : flatD d = true) (g : flatD e = true) : eqV v w = eqF d e := by
  cases r <;> first | (cases f; done) | (cases q <;> first | rfl | (cases g; done))
theorem inD_rep {K : KG} {F : Hp} {w : V} {e : DV} (q : Rep K F w e) (g : flatD e = true) : ∀ {v : List V} {d : List DV}, Reps K F v d → d.all flatD = true → inV w v = inD e d
  | _, _, .nil, _ => rfl
  | _, _, .cons h r, f => by
    simp only [List.all_cons, Bool.and_eq_true] at f
    have := inD_rep q g r f.2
    unfold inV inD at *
    rw [List.any_cons, List.any_cons, this, eqF_rep h q f.1 g]
/-- x in a text, a list, a tuple -/
def dInS (neg : Bool) (z : Str) (O : Own) (Q : DVK) (c : Str) : List Nat → Prop
  | [k] => Q (.bl (if neg then !decide (k ∈ tl z) else decide (k ∈ tl z))) O
  | _ => Q (.bl (if neg then (!(!(Builtin.Str.occurrences z c 0 z.length 1).isEmpty)) else !(Builtin.Str.occurrences z c 0 z.length 1).isEmpty)) O
def dInQ (neg : Bool) (x y : DV) (O : Own) (Q : DVK) : Prop := seqQ O y fun xs => flatD x = true ∧ xs.all flatD = true ∧ Q (.bl (if neg then !inD x xs else inD x xs)) O
def dIn (neg : Bool) : DV → DV → Own → DVK → Prop
  | .str c, .str z, O, Q => dInS neg z O Q c (tl c)
  | x, .lst xs, O, Q => dInQ neg x (.lst xs) O Q
  | x, .slst xs, O, Q => dInQ neg x (.slst xs) O Q
  | x, .tup xs, O, Q => dInQ neg x (.tup xs) O Q
  | x, .stup xs, O, Q => dInQ neg x (.stup xs) O Q
  | x, .ref xs, O, Q => dInQ neg x (.ref xs) O Q
  | _, _, _, _ => False
theorem dIn_ok {X : Cx} {f : Value → Value → Sem Value} (neg : Bool) (h0 : OpR X f (fun x y H Q => ∃ (c : Nat) (z : Str), x = .str ⟨#[c]⟩ ∧ y = .str z ∧ Q (.bl (if neg then !decide (c ∈ z.cps.toList) else decide (c ∈ z.cps.toList))) H))
    (h1 : OpR X f (fun x y H Q => ∃ i j, x = .str i ∧ y = .str j ∧ Q (.bl (if neg then (!(!(Builtin.Str.occurrences j i 0 j.length 1).isEmpty)) else !(Builtin.Str.occurrences j i 0 j.length 1).isEmpty)) H))
    (h2 : OpR X f (rIn X.K neg)) : OpD X f (dIn neg) := by
  refine ⟨fun g => OpR_imp (h0.or (h1.or h2)) ?_⟩
  rintro x y H VQ ⟨F, O, dx, dy, Q, rs, rx, ry, h, fin⟩
  have fq : dInQ neg dx dy O Q → ((∃ (c : Nat) (z : Str), x = .str ⟨#[c]⟩ ∧ y = .str z ∧ VQ (.bl (if neg then !decide (c ∈ z.cps.toList) else decide (c ∈ z.cps.toList))) H) ∨
      ((∃ i j, x = .str i ∧ y = .str j ∧ VQ (.bl (if neg then (!(!(Builtin.Str.occurrences j i 0 j.length 1).isEmpty)) else !(Builtin.Str.occurrences j i 0 j.length 1).isEmpty)) H) ∨ rIn X.K neg x y H VQ)) := by
    intro h
    obtain ⟨xs, e, h⟩ := seqQ_ex h
    obtain ⟨p, vs, rfl, h1, r1⟩ := seqOf_at rs ry e
    refine .inr (.inr ⟨p, vs, rfl, h1, flat_rep rx h.1, flat_reps r1 h.2.1, ?_⟩)
    have := fin _ _ h.2.2 _ _ F (.refl rs) (.bl _)
    rw [inD_rep rx h.1 r1 h.2.1]
    cases neg <;> simpa using this
  unfold dIn at h
  split at h
  · rename_i c z
    cases rx; cases ry
    unfold dInS at h
    split at h
    · rename_i k e
      refine .inl ⟨k, z, ?_, rfl, ?_⟩
      · have : c = ⟨#[k]⟩ := ext_tl e
        rw [this]
      · exact fin _ _ h _ _ F (.refl rs) (.bl _)
    · exact .inr (.inl ⟨_, _, rfl, rfl, fin _ _ h _ _ F (.refl rs) (.bl _)⟩)
  all_goals first | exact fq h | exact h.elim
theorem od_in {X : Cx} : OpD X (compareOp .In) (dIn false) := dIn_ok false op_in_sign op_in_str op_in_seq
theorem od_notIn {X : Cx} : OpD X (compareOp .NotIn) (dIn true) := dIn_ok true op_notIn_sign op_notIn_str op_notIn_seq
/-- x in a dict of the module: text keys -/
def dInK (K : PySem.W.Frag) (d : Addr) (neg : Bool) : DV → DV → Own → DVK → Prop
  | .str z, .ref a, O, Q => a = d ∧ ∃ r, PySem.W.nsIn K d z = some r ∧ Q (.bl (if neg then !r.isSome else r.isSome)) O
  | _, _, _, _ => False
theorem od_inK {X : Cx} {d : Addr} {es : Array DictEntry} {n : Nat} (D : KDict X.K X.w d es n) : OpD X (compareOp .In) (dInK X.K d false) := by
  refine ⟨fun g => OpR_imp (op_in_kd D) ?_⟩
  rintro x y H VQ ⟨F, O, dx, dy, Q, rs, rx, ry, h, fin⟩
  unfold dInK at h
  split at h
  · cases rx; cases ry
    obtain ⟨rfl, r, h1, h2⟩ := h
    exact ⟨_, r, rfl, rfl, h1, fin _ _ h2 _ _ F (.refl rs) (.bl _)⟩
  · exact h.elim

/-! ### x[i], x[a:b] -/
def dIxQ (x : DV) (i : Int) (O : Own) (Q : DVK) : Prop := seqQ O x fun xs => onSome (atI xs i) fun d => Q d O
def dIx : DV → DV → Own → DVK → Prop
  | .str z, .int i, O, Q => z.length ≤ sizeLine ∧ onSome (atI (tl z) i) fun c => Q (.str ⟨#[c]⟩) O
  | .lst x, .int i, O, Q => dIxQ (.lst x) i O Q
  | .slst x, .int i, O, Q => dIxQ (.slst x) i O Q
  | .tup x, .int i, O, Q => dIxQ (.tup x) i O Q
  | .stup x, .int i, O, Q => dIxQ (.stup x) i O Q
  | .ref x, .int i, O, Q => dIxQ (.ref x) i O Q
  | _, _, _, _ => False
theorem atI_rep {K : KG} {F : Hp} {vs : List V} {ds : List DV} {i : Int} {d : DV} (r : Reps K F vs ds) (h : atI ds i = some d) : ∃ v, atI vs i = some v ∧ Rep K F v d := by
  unfold atI at h ⊢
  rw [r.len]
  cases e : ixN ds.length i with
  | none => rw [e] at h; cases h
  | some j =>
    rw [e] at h
    exact r.get h
theorem de_ix {X : Cx} {a b : Expr} {ta tb : DTE} {pos : Pos} (ha : DE XW X a ta) (hb : DE XW X b tb) (hs : PlainIx b := by exact fun _ _ => rfl) : DE XW X (.Subscript a b pos) (dOp dIx ta tb) := by
  have h : ∀ g : G, IxR X (liftR2 (kg X g) dIx) := by
    intro g
    intro value slice pins s σ H x y v u VQ I rx' ry' h hs
    obtain ⟨F, O, dx, dy, Q, rs, rx, ry, h, fin⟩ := h
    refine ix_seq value slice pins s σ H x y v u VQ I rx' ry' ?_ hs
    have fq : ∀ i, dy = .int i → dIxQ dx i O Q → rIx X.K x y H VQ := by
      rintro i rfl h
      cases ry
      obtain ⟨xs, e, h⟩ := seqQ_ex h
      obtain ⟨d, e', h⟩ := onSome_ex h
      obtain ⟨p, vs, rfl, h1, r1⟩ := seqOf_at rs rx e
      obtain ⟨w, h2, h3⟩ := atI_rep r1 e'
      have q := fin _ _ h _ _ F (.refl rs) h3
      rcases h1 with h1 | h1
      · exact .inl ⟨p, vs, _, w, rfl, rfl, h1, h2, q⟩
      · exact .inr (.inl ⟨p, vs, _, w, rfl, rfl, h1, h2, q⟩)
    unfold dIx at h
    split at h
    · cases rx; cases ry
      obtain ⟨h0, h⟩ := h
      obtain ⟨c, e, h⟩ := onSome_ex h
      exact .inr (.inr ⟨_, _, c, rfl, rfl, h0, e, fin _ _ h _ _ F (.refl rs) (.str _)⟩)
    all_goals first | exact fq _ rfl h | exact h.elim
  exact ⟨fun g hg => PE_imp (pe_ix (h g) (ha.pe g hg) (hb.pe g hg) hs) fun _ _ _ h => liftOp h⟩
abbrev DTO := DSt → Own → (Option Int → Own → Prop) → Prop
def liftO (K : KG) (t : DTO) : TO := fun σ H VQ => ∃ F O S Q, RS K F O H ∧ SR K F σ S ∧ t S O Q ∧ ∀ o O', Q o O' → ∀ H' F', Stp K F O H F' O' H' → VQ o H'
structure DO (XW : DXK) (X : Cx) (e : Option Expr) (t : DTO) : Prop where
  po : ∀ g, Good XW X g → PO X e (liftO (kg X g) t)
theorem PO_imp {X : Cx} {e : Option Expr} {t t' : TO} (h : PO X e t) (i : ∀ σ H Q, t' σ H Q → t σ H Q) : PO X e t' := ⟨fun pins s σ H Q I q => h.run pins s σ H Q I (i σ H Q q)⟩
def dNoPart (u0_ : DSt) (O : Own) (Q : Option Int → Own → Prop) : Prop := Q none O
def kInt (Q : Int → Own → Prop) : DV → Own → Prop
  | .int i, O => Q i O
  | _, _ => False
def dPart (t : DTE) (S : DSt) (O : Own) (Q : Option Int → Own → Prop) : Prop := t S O (kInt fun i O' => Q (some i) O')
theorem do_none {X : Cx} : DO XW X none dNoPart := ⟨fun g hg => PO_imp po_none fun σ H VQ ⟨F, O, S, Q, rs, sr, h, fin⟩ => fin _ _ h H F (.refl rs)⟩
theorem do_some {X : Cx} {e : Expr} {t : DTE} (h : DE XW X e t) : DO XW X (some e) (dPart t) := by
  refine ⟨fun g hg => PO_imp (po_some (h.pe g hg)) fun σ H VQ ⟨F, O, S, Q, rs, sr, h, fin⟩ => ⟨F, O, S, _, rs, sr, h, fun d O1 h1 v H1 F1 s1 rv => ?_⟩⟩
  cases rv with
  | int i => exact ⟨i, rfl, fin _ _ h1 H1 F1 s1⟩
  | _ => exact h1.elim
/-- the items of xs[lo:hi] -/
def cutD (xs : List DV) (lo hi : Option Int) : List DV := (xs.drop (HT.sIx xs.length 0 lo)).take (HT.sIx xs.length xs.length hi - HT.sIx xs.length 0 lo)
theorem cut_rep {K : KG} {F : Hp} {vs : List V} {ds : List DV} (r : Reps K F vs ds) (lo hi : Option Int) : Reps K F (cutV vs lo hi) (cutD ds lo hi) := by
  unfold cutV cutD
  rw [r.len]
  exact (r.drop _).take _
/-- a list, not a tuple -/
def sqlOf (O : Own) : DV → Option (List DV)
  | .lst xs => some xs
  | .slst xs => some xs
  | .ref a => match O a with
    | some (.lst xs) => some xs
    | _ => none
  | _ => none
theorem sqlOf_at {K : KG} {F H : Hp} {O : Own} {v : V} {d : DV} {xs : List DV} (rs : RS K F O H) (r : Rep K F v d) (h : sqlOf O d = some xs) : ∃ a vs, v = .ref a ∧ SqL K H a vs ∧ Reps K F vs xs := by
  cases r with
  | lst e r => cases h; exact ⟨_, _, rfl, SqL.of (rs.lst e), r⟩
  | slst e r => cases h; exact ⟨_, _, rfl, rs.sqL e, r⟩
  | ref a =>
    simp only [sqlOf] at h
    split at h
    · rename_i ys e
      cases h
      obtain ⟨_, vs, h1, h2⟩ := rs.own a _ e
      exact ⟨a, vs, rfl, SqL.of h1, h2⟩
    · cases h
  | _ => cases h
abbrev DR3 := DV → Option Int → Option Int → Own → DVK → Prop
def sqlQ (O : Own) : DV → (List DV → Prop) → Prop
  | .lst xs, K => K xs
  | .slst xs, K => K xs
  | .ref a, K => onL (O a) K
  | _, _ => False
theorem sqlQ_ex {O : Own} {d : DV} {K : List DV → Prop} (h : sqlQ O d K) : ∃ xs, sqlOf O d = some xs ∧ K xs := by
  unfold sqlQ at h
  split at h
  · exact ⟨_, rfl, h⟩
  · exact ⟨_, rfl, h⟩
  · rename_i a
    obtain ⟨xs, e, h⟩ := onL_ex h
    exact ⟨xs, by simp [sqlOf, e], h⟩
  · exact h.elim
def dSlR : DV → Option Int → Option Int → Own → DVK → Prop
  | .str z, lo, hi, O, Q => z.length ≤ sizeLine ∧ Q (.str (cutS z lo hi)) O
  | .tup xs, lo, hi, O, Q => Q (.tup (cutD xs lo hi)) O
  | .lst xs, lo, hi, O, Q => Q (.lst (cutD xs lo hi)) O
  | .slst xs, lo, hi, O, Q => Q (.lst (cutD xs lo hi)) O
  | .ref a, lo, hi, O, Q => onL (O a) fun xs => Q (.lst (cutD xs lo hi)) O
  | _, _, _, _, _ => False
def dSl (r : DR3) (te : DTE) (tl th : DTO) (S : DSt) (O : Own) (Q : DVK) : Prop := te S O fun x O1 => tl S O1 fun l O2 => th S O2 fun u O3 => r x l u O3 Q
theorem de_slice {X : Cx} {e : Expr} {lo hi : Option Expr} {te : DTE} {tl th : DTO} {pos p2 : Pos} (he : DE XW X e te) (hl : DO XW X lo tl) (hh : DO XW X hi th) : DE XW X (.Subscript e (.Slice lo hi none p2) pos) (dSl dSlR te tl th) := by
  have h : ∀ g : G, SlR X (fun x lo hi H VQ => ∃ F O dx Q, RS (kg X g) F O H ∧ Rep X.K F x dx ∧ dSlR dx lo hi O Q ∧ FinE (kg X g) F O H Q VQ) := by
    intro g
    intro pins s σ H x v vl vu lo hi sl VQ I rv hs pl pu h
    obtain ⟨F, O, dx, Q, rs, rx, h, fin⟩ := h
    refine (sl_str.or (sl_tupA.or sl_list)) pins s σ H x v vl vu lo hi sl VQ I rv hs pl pu ?_
    have fl : ∀ {xs : List DV}, sqlOf O dx = some xs → Q (.lst (cutD xs lo hi)) O → (rSlS x lo hi H VQ ∨ (rSlA X.K x lo hi H VQ ∨ rSlL X.K x lo hi H VQ)) := by
      intro xs e h
      obtain ⟨a, vs, rfl, h1, r1⟩ := sqlOf_at rs rx e
      refine .inr (.inr ⟨a, vs, rfl, h1, fun p hp => ?_⟩)
      have s := rs.new hp (.lst (cutV vs lo hi))
      exact fin _ _ h _ _ _ s (.lst upd_same ((cut_rep r1 lo hi).mono s.sub))
    unfold dSlR at h
    split at h
    · cases rx
      exact .inl ⟨_, rfl, h.1, fin _ _ h.2 _ _ F (.refl rs) (.str _)⟩
    · rename_i xs
      cases rx with | @tup a vs _ e1 r1 =>
      refine .inr (.inl ⟨a, vs, rfl, SqT.of (rs.tup e1), fun z => ?_, fun z p hp => ?_⟩)
      · refine fin _ _ h _ _ F (.refl rs) (.tup e1 ?_)
        have : cutD xs lo hi = xs := by
          unfold cutD
          rw [r1.len] at z
          rw [z.1, z.2]; simp
        rw [this]; exact r1
      · have s := rs.new hp (.tup (cutV vs lo hi))
        exact fin _ _ h _ _ _ s (.tup upd_same ((cut_rep r1 lo hi).mono s.sub))
    · rename_i xs
      exact fl rfl h
    · rename_i xs
      exact fl rfl h
    · rename_i a
      obtain ⟨xs, e, h⟩ := onL_ex h
      exact fl (by simp [sqlOf, e]) h
    · exact h.elim
  refine ⟨fun g hg => PE_imp (pe_slice (h g) (he.pe g hg) (hl.po g hg) (hh.po g hg)) ?_⟩
  rintro σ H VQ ⟨F, O, S, Q, rs, sr, h, fin⟩
  exact ⟨F, O, S, _, rs, sr, h, fun d O1 h1 v H1 F1 s1 r1 => ⟨F1, O1, S, _, s1.rs, sr.mono s1.sub, h1, fun o O2 h2 H2 F2 s2 =>
    ⟨F2, O2, S, _, s2.rs, sr.mono (s1.trans s2).sub, h2, fun o' O3 h3 H3 F3 s3 => ⟨F3, O3, d, Q, s3.rs, r1.mono (s2.trans s3).sub, h3, fin.step (s1.trans (s2.trans s3))⟩⟩⟩⟩
end DL

set_option Elab.async false
set_option linter.all false
set_option maxRecDepth 100000
/-! DStm: tests, arguments, displays, statements, loops, comprehensions, calls, over data. -/
namespace DL
open PySem PySem.Spec PyProof.Rows L2 TL
variable {XW : DXK}

/-! ### tests -/
def dAnd (t u : DTT) (S : DSt) (O : Own) (Q : Bool → Own → Prop) : Prop := t S O fun c O1 => if c = true then u S O1 Q else Q false O1
def dOr (t u : DTT) (S : DSt) (O : Own) (Q : Bool → Own → Prop) : Prop := t S O fun c O1 => if c = true then Q true O1 else u S O1 Q
def dNot (t : DTT) (S : DSt) (O : Own) (Q : Bool → Own → Prop) : Prop := t S O fun c O1 => Q (!c) O1
def kTru (Q : Bool → Own → Prop) : DV → Own → Prop
  | .non, O1 => Q false O1
  | .bl b, O1 => Q b O1
  | .int i, O1 => Q (i != 0) O1
  | .str y, O1 => y.length ≤ sizeLine ∧ Q ((y.length : Int) != 0) O1
  | .lst xs, O1 => Q (!xs.isEmpty) O1
  | .slst xs, O1 => Q (!xs.isEmpty) O1
  | .tup xs, O1 => Q (!xs.isEmpty) O1
  | .stup xs, O1 => Q (!xs.isEmpty) O1
  | .ref a, O1 => onL (O1 a) fun xs => Q (!xs.isEmpty) O1
  | _, _ => False
def dTrue (K : PySem.W.Frag) (t : DTE) (S : DSt) (O : Own) (Q : Bool → Own → Prop) : Prop := t S O (kTru Q)
section
variable {X : Cx} {a b c : Expr} {ta tb : DTE} {tA tB : DTT} {rest : List Expr} {pos : Pos}
theorem dw_and1 (h : DT XW X a tA) : DW XW X (.BoolOp .And [a] pos) tA := ⟨fun g0 hg0 => pw_and1 (h.pt g0 hg0)⟩
theorem dw_or1 (h : DT XW X a tA) : DW XW X (.BoolOp .Or [a] pos) tA := ⟨fun g0 hg0 => pw_or1 (h.pt g0 hg0)⟩
theorem dw_and (ha : DT XW X a tA) (hb : DW XW X (.BoolOp .And (b :: rest) pos) tB) : DW XW X (.BoolOp .And (a :: b :: rest) pos) (dAnd tA tB) := by
  refine ⟨fun g0 hg0 => PW_imp (pw_and (ha.pt g0 hg0) (hb.pw g0 hg0)) ?_⟩
  rintro σ H VQ ⟨F, O, S, Q, rs, sr, h, fin⟩
  refine ⟨F, O, S, _, rs, sr, h, fun c O1 h1 H1 F1 s1 => ?_⟩
  dsimp only at h1 ⊢
  split
  · rename_i e
    rw [if_pos e] at h1
    exact ⟨F1, O1, S, Q, s1.rs, sr.mono s1.sub, h1, fin.step s1⟩
  · rename_i e
    rw [if_neg e] at h1
    exact fin _ _ h1 H1 F1 s1
theorem dw_or (ha : DT XW X a tA) (hb : DW XW X (.BoolOp .Or (b :: rest) pos) tB) : DW XW X (.BoolOp .Or (a :: b :: rest) pos) (dOr tA tB) := by
  refine ⟨fun g0 hg0 => PW_imp (pw_or (ha.pt g0 hg0) (hb.pw g0 hg0)) ?_⟩
  rintro σ H VQ ⟨F, O, S, Q, rs, sr, h, fin⟩
  refine ⟨F, O, S, _, rs, sr, h, fun c O1 h1 H1 F1 s1 => ?_⟩
  dsimp only at h1 ⊢
  split
  · rename_i e
    rw [if_pos e] at h1
    exact fin _ _ h1 H1 F1 s1
  · rename_i e
    rw [if_neg e] at h1
    exact ⟨F1, O1, S, Q, s1.rs, sr.mono s1.sub, h1, fin.step s1⟩
theorem dt_w (h : DW XW X a tA) : DT XW X a tA := ⟨fun g0 hg0 => (h.pw g0 hg0).pt⟩
theorem dt_not (ha : DT XW X a tA) : DT XW X (.UnaryOp .Not a pos) (dNot tA) := by
  refine ⟨fun g0 hg0 => PT_imp (pt_not (ha.pt g0 hg0)) ?_⟩
  rintro σ H VQ ⟨F, O, S, Q, rs, sr, h, fin⟩
  exact ⟨F, O, S, _, rs, sr, h, fun c O1 h1 H1 F1 s1 => fin _ _ h1 H1 F1 s1⟩
/-- an expression whose value is a bool -/
theorem dt_val (h : DE XW X a ta) (he : ∀ whole, isTrue a X.env whole = (do let v ← whole; standAt a.pos; holding [v] (truthy v)) := by intro _; rfl) : DT XW X a (dTest ta) := by
  refine ⟨fun g0 hg0 => PT_imp (pt_val (h.pe g0 hg0) he) ?_⟩
  rintro σ H VQ ⟨F, O, S, Q, rs, sr, h, fin⟩
  refine ⟨F, O, S, _, rs, sr, h, fun d O1 h1 v H1 F1 s1 rv => ?_⟩
  cases rv with
  | bl b => exact ⟨b, rfl, fin b O1 h1 H1 F1 s1⟩
  | _ => exact h1.elim
theorem dt_tru (h : DE XW X a ta) (he : ∀ whole, isTrue a X.env whole = (do let v ← whole; standAt a.pos; holding [v] (truthy v)) := by intro _; rfl) : DT XW X a (dTrue X.K ta) := by
  refine ⟨fun g0 hg0 => PT_imp (pt_truth (h.pe g0 hg0) he) ?_⟩
  rintro σ H VQ ⟨F, O, S, Q, rs, sr, h, fin⟩
  refine ⟨F, O, S, _, rs, sr, h, fun d O1 h1 v H1 F1 s1 rv => ?_⟩
  have fq : ∀ {xs : List DV}, seqOf O1 d = some xs → Q (!xs.isEmpty) O1 → ∃ k, TruV X.K v H1 k ∧ VQ k H1 := by
    intro xs e h1
    obtain ⟨p, vs, rfl, h2, r2⟩ := seqOf_at s1.rs rv e
    have ee : (!vs.isEmpty) = (!xs.isEmpty) := by cases r2 <;> rfl
    refine ⟨!vs.isEmpty, ?_, by rw [ee]; exact fin _ O1 h1 H1 F1 s1⟩
    rcases h2 with h2 | h2
    · exact .inl ⟨vs, h2, rfl⟩
    · exact .inr (.inl ⟨vs, h2, rfl⟩)
  unfold kTru at h1
  split at h1
  · cases rv; exact ⟨_, rfl, fin _ O1 h1 H1 F1 s1⟩
  · cases rv; exact ⟨_, rfl, fin _ O1 h1 H1 F1 s1⟩
  · cases rv; exact ⟨_, rfl, fin _ O1 h1 H1 F1 s1⟩
  · cases rv; exact ⟨_, ⟨h1.1, rfl⟩, fin _ O1 h1.2 H1 F1 s1⟩
  · exact fq rfl h1
  · exact fq rfl h1
  · exact fq rfl h1
  · exact fq rfl h1
  · rename_i a
    obtain ⟨xs, e, h1⟩ := onL_ex h1
    exact fq (by simp [seqOf, e]) h1
  · exact h1.elim
/-- .. as values -/
def dAndV (ta tb : DTE) (S : DSt) (O : Own) (Q : DVK) : Prop := ta S O (kBl fun c O1 => if c = true then tb S O1 Q else Q (.bl false) O1)
def dOrV (ta tb : DTE) (S : DSt) (O : Own) (Q : DVK) : Prop := ta S O (kBl fun c O1 => if c = true then Q (.bl true) O1 else tb S O1 Q)
def dNotV (ta : DTE) (S : DSt) (O : Own) (Q : DVK) : Prop := ta S O (kBl fun c O1 => Q (.bl (!c)) O1)
theorem de_one {op} (h : DE XW X a ta) : DE XW X (.BoolOp op [a] pos) ta := ⟨fun g0 hg0 => pe_one (h.pe g0 hg0)⟩
theorem de_and (ha : DE XW X a ta) (hb : DE XW X (.BoolOp .And (b :: rest) pos) tb) : DE XW X (.BoolOp .And (a :: b :: rest) pos) (dAndV ta tb) := by
  refine ⟨fun g0 hg0 => PE_imp (pe_and (ha.pe g0 hg0) (hb.pe g0 hg0)) ?_⟩
  rintro σ H VQ ⟨F, O, S, Q, rs, sr, h, fin⟩
  refine ⟨F, O, S, _, rs, sr, h, fun d O1 h1 v H1 F1 s1 rv => ?_⟩
  cases rv with
  | bl c =>
    refine ⟨c, rfl, ?_⟩
    dsimp only [kBl] at h1
    split
    · rename_i e; rw [if_pos e] at h1
      exact ⟨F1, O1, S, Q, s1.rs, sr.mono s1.sub, h1, fin.step s1⟩
    · rename_i e; rw [if_neg e] at h1
      exact fin _ _ h1 _ H1 F1 s1 (.bl _)
  | _ => exact h1.elim
theorem de_or (ha : DE XW X a ta) (hb : DE XW X (.BoolOp .Or (b :: rest) pos) tb) : DE XW X (.BoolOp .Or (a :: b :: rest) pos) (dOrV ta tb) := by
  refine ⟨fun g0 hg0 => PE_imp (pe_or (ha.pe g0 hg0) (hb.pe g0 hg0)) ?_⟩
  rintro σ H VQ ⟨F, O, S, Q, rs, sr, h, fin⟩
  refine ⟨F, O, S, _, rs, sr, h, fun d O1 h1 v H1 F1 s1 rv => ?_⟩
  cases rv with
  | bl c =>
    refine ⟨c, rfl, ?_⟩
    dsimp only [kBl] at h1
    split
    · rename_i e; rw [if_pos e] at h1
      exact fin _ _ h1 _ H1 F1 s1 (.bl _)
    · rename_i e; rw [if_neg e] at h1
      exact ⟨F1, O1, S, Q, s1.rs, sr.mono s1.sub, h1, fin.step s1⟩
  | _ => exact h1.elim
theorem de_not (ha : DE XW X a ta) : DE XW X (.UnaryOp .Not a pos) (dNotV ta) := by
  refine ⟨fun g0 hg0 => PE_imp (pe_not (ha.pe g0 hg0)) ?_⟩
  rintro σ H VQ ⟨F, O, S, Q, rs, sr, h, fin⟩
  refine ⟨F, O, S, _, rs, sr, h, fun d O1 h1 v H1 F1 s1 rv => ?_⟩
  cases rv with
  | bl c => exact ⟨c, rfl, fin _ _ h1 _ H1 F1 s1 (.bl _)⟩
  | _ => exact h1.elim
/-- a if t else b -/
def dIf (t : DTT) (ta tb : DTE) (S : DSt) (O : Own) (Q : DVK) : Prop := t S O fun c O1 => if c = true then ta S O1 Q else tb S O1 Q
theorem de_if (hc : DT XW X c tA) (ha : DE XW X a ta) (hb : DE XW X b tb) : DE XW X (.IfExp c a b pos) (dIf tA ta tb) := by
  refine ⟨fun g0 hg0 => PE_imp (pe_ifExp (hc.pt g0 hg0) (ha.pe g0 hg0) (hb.pe g0 hg0)) ?_⟩
  rintro σ H VQ ⟨F, O, S, Q, rs, sr, h, fin⟩
  refine ⟨F, O, S, _, rs, sr, h, fun c O1 h1 H1 F1 s1 => ?_⟩
  dsimp only at h1 ⊢
  split
  · rename_i e; rw [if_pos e] at h1
    exact ⟨F1, O1, S, Q, s1.rs, sr.mono s1.sub, h1, fin.step s1⟩
  · rename_i e; rw [if_neg e] at h1
    exact ⟨F1, O1, S, Q, s1.rs, sr.mono s1.sub, h1, fin.step s1⟩
def dNeg (t : DTE) (S : DSt) (O : Own) (Q : DVK) : Prop := t S O (kInt fun i O1 => Q (.int (-i)) O1)
theorem de_neg (ha : DE XW X a ta) : DE XW X (.UnaryOp .USub a pos) (dNeg ta) := by
  refine ⟨fun g0 hg0 => PE_imp (pe_un un_neg (ha.pe g0 hg0)) ?_⟩
  rintro σ H VQ ⟨F, O, S, Q, rs, sr, h, fin⟩
  refine ⟨F, O, S, _, rs, sr, h, fun d O1 h1 v H1 F1 s1 rv => ?_⟩
  cases rv with
  | int i => exact ⟨i, rfl, fin _ _ h1 _ H1 F1 s1 (.int _)⟩
  | _ => exact h1.elim
end

/-! ### arguments, displays -/
def dANil (u0_ : DSt) (O : Own) (Q : List DV → Own → Prop) : Prop := Q [] O
def dACons (te : DTE) (tr : DTA) (S : DSt) (O : Own) (Q : List DV → Own → Prop) : Prop := te S O fun x O1 => tr S O1 fun xs O2 => Q (x :: xs) O2
section
variable {X : Cx} {e : Expr} {es : List Expr} {te : DTE} {t : DTA} {pos : Pos}
theorem da_nil : DA XW X [] dANil := ⟨fun g0 hg0 => PA_imp pa_nil fun σ H VQ ⟨F, O, S, Q, rs, sr, h, fin⟩ => fin _ _ h [] H F (.refl rs) .nil⟩
theorem da_cons (ha : DE XW X e te) (hr : DA XW X es t) (hs : starEach (e :: es) X.env = (false, eval e X.env) :: starEach es X.env := by rfl) : DA XW X (e :: es) (dACons te t) := by
  refine ⟨fun g0 hg0 => PA_imp (pa_cons (ha.pe g0 hg0) (hr.pa g0 hg0) hs) ?_⟩
  rintro σ H VQ ⟨F, O, S, Q, rs, sr, h, fin⟩
  exact ⟨F, O, S, _, rs, sr, h, fun d O1 h1 v H1 F1 s1 rv => ⟨F1, O1, S, _, s1.rs, sr.mono s1.sub, h1, fun ds O2 h2 vs H2 F2 s2 r2 => fin _ _ h2 _ H2 F2 (s1.trans s2) (.cons (rv.mono s2.sub) r2)⟩⟩
theorem small_line {n : Nat} (h : n ≤ 4096) : n ≤ sizeLine := by
  have := sizeLine_eq
  omega
def dTup (t : DTA) (S : DSt) (O : Own) (Q : DVK) : Prop := t S O fun xs O1 => xs.length ≤ 4096 ∧ Q (.tup xs) O1
def dLstF (t : DTA) (S : DSt) (O : Own) (Q : DVK) : Prop := t S O fun xs O1 => xs.length ≤ 4096 ∧ Q (.lst xs) O1
def dLstO (t : DTA) (S : DSt) (O : Own) (Q : DVK) : Prop := t S O fun xs O1 => xs.length ≤ 4096 ∧ ∀ p, O1 p = none → Q (.ref p) (oset O1 p (.lst xs))
theorem de_tup {x1} (h : DA XW X es t) : DE XW X (.Tuple es x1 pos) (dTup t) := by
  refine ⟨fun g0 hg0 => PE_imp (pe_tup (h.pa g0 hg0)) ?_⟩
  rintro σ H VQ ⟨F, O, S, Q, rs, sr, h, fin⟩
  refine ⟨F, O, S, _, rs, sr, h, fun ds O1 h1 vs H1 F1 s1 r1 => ⟨by rw [r1.len]; exact small_line h1.1, fun p hp => ?_⟩⟩
  have s := s1.rs.new hp (.tup vs)
  exact fin _ _ h1.2 _ _ _ (s1.trans s) (.tup upd_same (r1.mono s.sub))
theorem de_lstF (h : DA XW X es t) : DE XW X (.List es pos) (dLstF t) := by
  refine ⟨fun g0 hg0 => PE_imp (pe_lst (h.pa g0 hg0)) ?_⟩
  rintro σ H VQ ⟨F, O, S, Q, rs, sr, h, fin⟩
  refine ⟨F, O, S, _, rs, sr, h, fun ds O1 h1 vs H1 F1 s1 r1 => ⟨by rw [r1.len]; exact small_line h1.1, fun p hp => ?_⟩⟩
  have s := s1.rs.new hp (.lst vs)
  exact fin _ _ h1.2 _ _ _ (s1.trans s) (.lst upd_same (r1.mono s.sub))
theorem de_lstO (h : DA XW X es t) : DE XW X (.List es pos) (dLstO t) := by
  refine ⟨fun g0 hg0 => PE_imp (pe_lst (h.pa g0 hg0)) ?_⟩
  rintro σ H VQ ⟨F, O, S, Q, rs, sr, h, fin⟩
  refine ⟨F, O, S, _, rs, sr, h, fun ds O1 h1 vs H1 F1 s1 r1 => ⟨by rw [r1.len]; exact small_line h1.1, fun p hp => ?_⟩⟩
  have rs' := s1.rs.newO hp (o := .lst vs) (c := .lst ds) ⟨vs, upd_same, r1⟩
  exact fin _ _ (h1.2 p (s1.rs.free hp).2) _ _ _ (s1.trans rs') (.ref p)
end

/-! ### built-in calls -/
abbrev DRL := List DV → Own → DVK → Prop
def liftC (K : KG) (r : DRL) : List V → Hp → VK → Prop := fun vs H VQ => ∃ F O ds Q, RS K F O H ∧ Reps K F vs ds ∧ r ds O Q ∧ FinE K F O H Q VQ
structure CallD (X : Cx) (f : Value) (r : DRL) : Prop where
  cr : ∀ g : G, CallR X f (liftC (kg X g) r)
theorem CallR_imp {X : Cx} {f : Value} {r r' : List V → Hp → VK → Prop} (h : CallR X f r) (i : ∀ vs H Q, r' vs H Q → r vs H Q) : CallR X f r' := fun pins s σ H xs us Q I v q => h pins s σ H xs us Q I v (i xs H Q q)
def dCB (r : DRL) (t : DTA) (S : DSt) (O : Own) (Q : DVK) : Prop := t S O fun ds O1 => r ds O1 Q
section
variable {X : Cx} {x : Str} {p pos : Pos} {e : Expr} {es : List Expr} {t : DTA} {id T : String} {r : DRL}
theorem liftCB {K : KG} {r : DRL} {t : DTA} {σ : L2.St} {H : Hp} {VQ : VK} (h : liftE K (dCB r t) σ H VQ) : tCB (liftC K r) (liftA K t) σ H VQ := by
  obtain ⟨F, O, S, Q, rs, sr, h, fin⟩ := h
  exact ⟨F, O, S, _, rs, sr, h, fun ds O1 h1 vs H1 F1 s1 r1 => ⟨F1, O1, ds, Q, s1.rs, r1, h1, fin.step s1⟩⟩
theorem de_callB (hc : CallD X (.builtin id) r) (hm : X.mg x = none) (hv : bootBuiltins x = some (.builtin id)) (ha : DA XW X (e :: es) t) (hg : Gl X x := by rfl) (hn : x ≠ "__name__" := by decide) (hdb : (x == ("__debug__" : Str)) = false := by decide)
    (he : starEach (e :: es) X.env = (false, eval e X.env) :: starEach es X.env := by rfl) (hpl : (backTo pos (starEach es X.env)).any (·.1) = false := by rfl) : DE XW X (.Call (.Name x p) (e :: es) [] pos) (dCB r t) :=
  ⟨fun g0 hg0 => PE_imp (pe_callB (hc.cr g0) hg hm hv (ha.pa g0 hg0) hn hdb he hpl) fun _ _ _ h => liftCB h⟩
theorem de_callTy (hc : CallD X (.type T) r) (hm : X.mg x = none) (hv : bootBuiltins x = some (.type T)) (ha : DA XW X (e :: es) t) (hg : Gl X x := by rfl) (hn : x ≠ "__name__" := by decide) (hdb : (x == ("__debug__" : Str)) = false := by decide)
    (he : starEach (e :: es) X.env = (false, eval e X.env) :: starEach es X.env := by rfl) (hpl : (backTo pos (starEach es X.env)).any (·.1) = false := by rfl) : DE XW X (.Call (.Name x p) (e :: es) [] pos) (dCB r t) :=
  ⟨fun g0 hg0 => PE_imp (pe_callTy (hc.cr g0) hg hm hv (ha.pa g0 hg0) hn hdb he hpl) fun _ _ _ h => liftCB h⟩
end
theorem Reps.one {K : KG} {F : Hp} {vs : List V} {d : DV} (r : Reps K F vs [d]) : ∃ v, vs = [v] ∧ Rep K F v d := by
  cases r with | cons h r => cases r; exact ⟨_, rfl, h⟩
theorem Reps.two {K : KG} {F : Hp} {vs : List V} {d e : DV} (r : Reps K F vs [d, e]) : ∃ v w, vs = [v, w] ∧ Rep K F v d ∧ Rep K F w e := by
  cases r with | cons h r => cases r with | cons h2 r => cases r; exact ⟨_, _, rfl, h, h2⟩
/-- len -/
def dLen : List DV → Own → DVK → Prop
  | [.str y], O, Q => y.length ≤ sizeLine ∧ Q (.int y.length) O
  | [.lst xs], O, Q => Q (.int xs.length) O
  | [.slst xs], O, Q => Q (.int xs.length) O
  | [.tup xs], O, Q => Q (.int xs.length) O
  | [.stup xs], O, Q => Q (.int xs.length) O
  | [.ref a], O, Q => onL (O a) fun xs => Q (.int xs.length) O
  | _, _, _ => False
theorem cd_len {X : Cx} : CallD X (.builtin "len") dLen := by
  refine ⟨fun g0 => CallR_imp call_len ?_⟩
  rintro vs H VQ ⟨F, O, ds, Q, rs, rr, h, fin⟩
  have fq : ∀ {d : DV} {xs : List DV}, ds = [d] → seqOf O d = some xs → Q (.int xs.length) O → ∃ x n, vs = [x] ∧ LenV X.K x H n ∧ VQ (.int n) H := by
    intro d xs ed e hq
    subst ed
    obtain ⟨v, rfl, r⟩ := rr.one
    obtain ⟨a, ws, rfl, h1, r1⟩ := seqOf_at rs r e
    refine ⟨.ref a, ws.length, rfl, ?_, ?_⟩
    · rcases h1 with h1 | h1
      · exact .inl ⟨ws, h1, rfl⟩
      · exact .inr ⟨ws, h1, rfl⟩
    · rw [r1.len]; exact fin _ _ hq _ _ F (.refl rs) (.int _)
  unfold dLen at h
  split at h
  · obtain ⟨v, rfl, r⟩ := rr.one
    cases r
    exact ⟨_, _, rfl, ⟨h.1, rfl⟩, fin _ _ h.2 _ _ F (.refl rs) (.int _)⟩
  · exact fq rfl rfl h
  · exact fq rfl rfl h
  · exact fq rfl rfl h
  · exact fq rfl rfl h
  · rename_i a
    obtain ⟨xs, e, h⟩ := onL_ex h
    exact fq rfl (by simp [seqOf, e]) h
  · exact h.elim
/-- int -/
def dInt : List DV → Own → DVK → Prop
  | [.int i], O, Q => Q (.int i) O
  | [.bl k], O, Q => Q (.int (if k then 1 else 0)) O
  | [.str a], O, Q => ∃ n, PySem.intText? a = some n ∧ a.length ≤ 640 ∧ Q (.int n) O
  | _, _, _ => False
theorem cd_int {X : Cx} : CallD X (.type "int") dInt := by
  refine ⟨fun g0 => CallR_imp (call_int1.or call_int_str) ?_⟩
  rintro vs H VQ ⟨F, O, ds, Q, rs, rr, h, fin⟩
  unfold dInt at h
  split at h
  · obtain ⟨v, rfl, r⟩ := rr.one
    cases r
    exact .inl (.inl ⟨_, rfl, fin _ _ h _ _ F (.refl rs) (.int _)⟩)
  · obtain ⟨v, rfl, r⟩ := rr.one
    cases r
    exact .inl (.inr ⟨_, rfl, fin _ _ h _ _ F (.refl rs) (.int _)⟩)
  · obtain ⟨v, rfl, r⟩ := rr.one
    cases r
    obtain ⟨n, h1, h2, h3⟩ := h
    exact .inr ⟨_, n, rfl, h1, h2, fin _ _ h3 _ _ F (.refl rs) (.int _)⟩
  · exact h.elim
/-- str of an int -/
def dStrI : List DV → Own → DVK → Prop
  | [.int i], O, Q => i.natAbs.log2 < 1920 ∧ Q (.str (toString i)) O
  | _, _, _ => False
theorem cd_str {X : Cx} : CallD X (.type "str") dStrI := by
  refine ⟨fun g0 => CallR_imp call_str_int ?_⟩
  rintro vs H VQ ⟨F, O, ds, Q, rs, rr, h, fin⟩
  unfold dStrI at h
  split at h
  · obtain ⟨v, rfl, r⟩ := rr.one
    cases r
    exact ⟨_, rfl, h.1, fin _ _ h.2 _ _ F (.refl rs) (.str _)⟩
  · exact h.elim
/-- isinstance by a built-in type -/
def tyName (O : Own) : DV → Option String
  | .non => some "NoneType"
  | .bl _ => some "bool"
  | .int _ => some "int"
  | .str _ => some "str"
  | .tup _ => some "tuple"
  | .stup _ => some "tuple"
  | .lst _ => some "list"
  | .slst _ => some "list"
  | .dK _ => some "dict"
  | .ref a => match O a with
    | some (.lst _) => some "list"
    | some (.dK _) => some "dict"
    | some (.dT _) => some "dict"
    | _ => none
  | _ => none
def subTy (a b : String) : Bool := a == b || (a == "bool" && b == "int")
def dIsi : List DV → Own → DVK → Prop
  | [d, .ty b], O, Q => onSome (tyName O d) fun a => b ∈ ["int", "str", "bool", "list", "tuple", "dict"] ∧ Q (.bl (subTy a b)) O
  | _, _, _ => False
theorem kitB_sub : ∀ a ∈ ["NoneType", "bool", "int", "str", "tuple", "list", "dict"], ∀ b ∈ ["int", "str", "bool", "list", "tuple", "dict"], kitB a b = some (subTy a b) := by decide +kernel
theorem tyName_mem {O : Own} {d : DV} {a : String} (h : tyName O d = some a) : a ∈ ["NoneType", "bool", "int", "str", "tuple", "list", "dict"] := by
  unfold tyName at h
  split at h <;> first | (cases h; done) | (cases h; decide) | skip
  split at h <;> first | (cases h; done) | (cases h; decide)
theorem tyName_at {K : KG} {F H : Hp} {O : Own} {v : V} {d : DV} {a : String} (rs : RS K F O H) (r : Rep K F v d) (h : tyName O d = some a) : TyX K H v (.type a) := by
  cases r with
  | non => cases h; exact .base .non
  | bl b => cases h; exact .base (.bl b)
  | int b => cases h; exact .base (.int b)
  | str b => cases h; exact .base (.str b)
  | ty b => cases h
  | tup e r => cases h; exact .base (.tup (rs.tup e))
  | stup e r =>
    cases h
    rcases rs.sqT e with (e | ⟨o, e⟩) | ⟨o, its, n, e, c, _⟩
    · exact .base (.tup e)
    · exact .fTuple e
    · exact .kTuple e c
  | lst e r => cases h; exact .base (.lst (rs.lst e))
  | slst e r =>
    cases h
    rcases rs.sqL e with (e | ⟨o, e⟩) | ⟨o, its, n, e, c, _⟩
    · exact .base (.lst e)
    · exact .base (.frz e)
    · exact .kList e c
  | dK e r =>
    cases h
    rcases rs.fro _ _ e with e | ⟨_, ob, e⟩
    · exact .base (.dK e)
    · exact .fDict e
  | dT e r => cases h
  | ref p =>
    simp only [tyName] at h
    split at h
    · rename_i xs e; cases h
      obtain ⟨_, vs, h1, _⟩ := rs.own p _ e
      exact .base (.lst h1)
    · rename_i xs e; cases h
      obtain ⟨_, vs, h1, _⟩ := rs.own p _ e
      exact .base (.dK h1)
    · rename_i xs e; cases h
      obtain ⟨_, vs, h1, _⟩ := rs.own p _ e
      exact .base (.dT h1)
    · cases h
theorem cd_isi {X : Cx} : CallD X (.builtin "isinstance") dIsi := by
  refine ⟨fun g0 => CallR_imp call_isi ?_⟩
  rintro vs H VQ ⟨F, O, ds, Q, rs, rr, h, fin⟩
  unfold dIsi at h
  split at h
  · rename_i d b
    obtain ⟨v, w, rfl, r1, r2⟩ := rr.two
    cases r2
    obtain ⟨a, e, h⟩ := onSome_ex h
    exact ⟨v, .ty b, _, _, _, rfl, .ty b, tyName_at rs r1 e, kit_ty (kitB_sub a (tyName_mem e) b h.1), fin _ _ h.2 _ _ F (.refl rs) (.bl _)⟩
  · exact h.elim
end DL

set_option Elab.async false
set_option linter.all false
set_option maxRecDepth 100000
/-! DRun: methods, targets, statements, loops, comprehensions, calls, over data. -/
namespace DL
open PySem PySem.Spec PyProof.Rows L2 TL
variable {XW : DXK}

/-! ### methods of built-in types -/
abbrev DRM := DV → List DV → Own → DVK → Prop
def mTy (O : Own) : DV → Option String
  | .str _ => some "str"
  | .lst _ => some "list"
  | .slst _ => some "list"
  | .ref a => match O a with
    | some (.lst _) => some "list"
    | some (.dK _) => some "dict"
    | some (.dT _) => some "dict"
    | _ => none
  | _ => none
theorem mTy_at {K : KG} {F H : Hp} {O : Own} {v : V} {d : DV} {T : String} (rs : RS K F O H) (r : Rep K F v d) (h : mTy O d = some T) : tyV K T v H := by
  cases r with
  | str x => cases h; rfl
  | lst e r => cases h; exact .inl ⟨rfl, _, SqL.of (rs.lst e)⟩
  | slst e r => cases h; exact .inl ⟨rfl, _, rs.sqL e⟩
  | ref a =>
    simp only [mTy] at h
    split at h
    · rename_i xs e; cases h
      obtain ⟨_, vs, h1, _⟩ := rs.own a _ e
      exact .inl ⟨rfl, vs, SqL.of h1⟩
    · rename_i xs e; cases h
      obtain ⟨_, vs, h1, _⟩ := rs.own a _ e
      exact .inr (.inr (.inl ⟨rfl, .inl ⟨vs, h1⟩⟩))
    · rename_i xs e; cases h
      obtain ⟨_, vs, h1, _⟩ := rs.own a _ e
      exact .inr (.inr (.inl ⟨rfl, .inr ⟨vs, h1⟩⟩))
    · cases h
  | _ => cases h
def liftM (K : KG) (r : DRM) : V → List V → Hp → VK → Prop := fun v vs H VQ => ∃ F O d ds Q, RS K F O H ∧ Rep K F v d ∧ Reps K F vs ds ∧ r d ds O Q ∧ FinE K F O H Q VQ
structure MtD (X : Cx) (id : String) (r : DRM) : Prop where
  mt : ∀ g : G, MtR X id (liftM (kg X g) r)
theorem MtR_imp {X : Cx} {id : String} {r r' : V → List V → Hp → VK → Prop} (h : MtR X id r) (i : ∀ x xs H Q, r' x xs H Q → r x xs H Q) : MtR X id r' := fun pins s σ H x xs v us Q I rx rv q => h pins s σ H x xs v us Q I rx rv (i x xs H Q q)
def dBM (T : String) (r : DRM) (to : DTE) (t : DTA) (S : DSt) (O : Own) (Q : DVK) : Prop := to S O fun x O1 => mTy O1 x = some T ∧ t S O1 fun xs O2 => r x xs O2 Q
def dBM0 (T : String) (r : DRM) (to : DTE) (S : DSt) (O : Own) (Q : DVK) : Prop := to S O fun x O1 => mTy O1 x = some T ∧ r x [] O1 Q
section
variable {X : Cx} {o e : Expr} {es : List Expr} {to : DTE} {t : DTA} {name : Str} {apos cpos : Pos} {T id : String} {r : DRM}
theorem de_bm (pa : PlainAttrs T) (sl : Slot T name id) (hty : typeOf (.builtin id) = pure (.type "method_descriptor")) (hm : MtD X id r) (ho : DE XW X o to) (ha : DA XW X (e :: es) t)
    (hbase : attributeBase o name X.env (eval o X.env) = eval o X.env := by rfl)
    (hfew : ((backTo cpos (starEach (e :: es) X.env)).all (fun x => !x.1) && (backToKw cpos (keywordEach [] X.env)).all (fun x => x.1.isSome)
      && decide ((e :: es).length + ([] : List Keyword).length + (if ([] : List Keyword).isEmpty then 0 else 1) < 30)) = true := by rfl)
    (hline : (apos.endLine == cpos.line) = true := by rfl) (hs : starEach (e :: es) X.env = (false, eval e X.env) :: starEach es X.env := by rfl) (hplain : (backTo cpos (starEach es X.env)).any (·.1) = false := by rfl) :
    DE XW X (.Call (.Attribute o name apos) (e :: es) [] cpos) (dBM T r to t) := by
  refine ⟨fun g0 hg0 => PE_imp (pe_bm pa sl hty (hm.mt g0) (ho.pe g0 hg0) (ha.pa g0 hg0) hbase hfew hline hs hplain) ?_⟩
  rintro σ H VQ ⟨F, O, S, Q, rs, sr, h, fin⟩
  exact ⟨F, O, S, _, rs, sr, h, fun d O1 h1 v H1 F1 s1 rv => ⟨mTy_at s1.rs rv h1.1, F1, O1, S, _, s1.rs, sr.mono s1.sub, h1.2, fun ds O2 h2 vs H2 F2 s2 r2 => ⟨F2, O2, d, ds, Q, s2.rs, rv.mono s2.sub, r2, h2, fin.step (s1.trans s2)⟩⟩⟩
theorem de_bm0 (pa : PlainAttrs T) (sl : Slot T name id) (hty : typeOf (.builtin id) = pure (.type "method_descriptor")) (hm : MtD X id r) (ho : DE XW X o to)
    (hbase : attributeBase o name X.env (eval o X.env) = eval o X.env := by rfl) (hline : (apos.endLine == cpos.line) = true := by rfl) : DE XW X (.Call (.Attribute o name apos) [] [] cpos) (dBM0 T r to) := by
  refine ⟨fun g0 hg0 => PE_imp (pe_bm0 pa sl hty (hm.mt g0) (ho.pe g0 hg0) hbase hline) ?_⟩
  rintro σ H VQ ⟨F, O, S, Q, rs, sr, h, fin⟩
  exact ⟨F, O, S, _, rs, sr, h, fun d O1 h1 v H1 F1 s1 rv => ⟨mTy_at s1.rs rv h1.1, F1, O1, d, [], Q, s1.rs, rv, .nil, h1.2, fin.step s1⟩⟩
end
/-- xs.append(y) -/
def dApp : DV → List DV → Own → DVK → Prop
  | .ref a, [y], O, Q => onL (O a) fun xs => xs.length < sizeLine ∧ Q .non (oset O a (.lst (xs ++ [y])))
  | _, _, _, _ => False
theorem md_append {X : Cx} : MtD X "list.append" dApp := by
  refine ⟨fun g0 => MtR_imp mt_append ?_⟩
  rintro x xs H VQ ⟨F, O, d, ds, Q, rs, rx, rr, h, fin⟩
  unfold dApp at h
  split at h
  · rename_i a y
    cases rx
    obtain ⟨v, rfl, ry⟩ := rr.one
    obtain ⟨ys, e, h⟩ := onL_ex h
    obtain ⟨_, vs, h1, r1⟩ := rs.own a _ e
    refine ⟨a, vs, v, rfl, rfl, h1, by rw [r1.len]; exact h.1, ?_⟩
    exact fin _ _ h.2 _ _ F (rs.write e ⟨_, upd_same, r1.append (.cons ry .nil)⟩) .non
  · exact h.elim
def strOf : DV → Option Str
  | .str x => some x
  | _ => none
def strsOf : List DV → Option (List Str)
  | [] => some []
  | .str x :: r => match strsOf r with
    | some ys => some (x :: ys)
    | none => none
  | _ => none
theorem strsOf_map : ∀ ys : List Str, strsOf (ys.map DV.str) = some ys
  | [] => rfl
  | y :: r => by simp only [List.map_cons, strsOf, strsOf_map r]
theorem strsOf_eq : ∀ {xs : List DV} {ys : List Str}, strsOf xs = some ys → xs = ys.map DV.str
  | [], _, h => by cases h; rfl
  | .str x :: r, _, h => by
    unfold strsOf at h
    split at h
    · rename_i ys e; cases h; rw [strsOf_eq e]; rfl
    · cases h
  | .non :: _, _, h => by cases h
  | .bl _ :: _, _, h => by cases h
  | .int _ :: _, _, h => by cases h
  | .tup _ :: _, _, h => by cases h
  | .lst _ :: _, _, h => by cases h
  | .slst _ :: _, _, h => by cases h
  | .stup _ :: _, _, h => by cases h
  | .dK _ :: _, _, h => by cases h
  | .dT _ :: _, _, h => by cases h
  | .ref _ :: _, _, h => by cases h
  | .ty _ :: _, _, h => by cases h
/-- sep.join(xs) -/
def dJoin : DV → List DV → Own → DVK → Prop
  | .str a, [d], O, Q => seqQ O d fun xs => onSome (strsOf xs) fun ys => (ys.map (·.length)).sum + ys.length * a.length ≤ 16777216 ∧ Q (.str (Txt.join a ys)) O
  | _, _, _, _ => False
theorem md_join {X : Cx} : MtD X "str.join" dJoin := by
  refine ⟨fun g0 => MtR_imp mt_join ?_⟩
  rintro x xs H VQ ⟨F, O, d, ds, Q, rs, rx, rr, h, fin⟩
  unfold dJoin at h
  split at h
  · rename_i a y
    cases rx
    obtain ⟨v, rfl, ry⟩ := rr.one
    obtain ⟨ys, e, h⟩ := seqQ_ex h
    obtain ⟨p, vs, rfl, h1, r1⟩ := seqOf_at rs ry e
    obtain ⟨zs, e2, hj⟩ := onSome_ex h
    have e3 := strsOf_eq e2
    subst e3
    have e4 := r1.strs
    subst e4
    exact ⟨_, p, zs, rfl, rfl, h1, hj.1, fin _ _ hj.2 _ _ F (.refl rs) (.str _)⟩
  · exact h.elim
/-- x.split(sep) -/
def dSplit : DV → List DV → Own → DVK → Prop
  | .str a, [.str b], O, Q => (b.length == 0) = false ∧ a.length + 2 ≤ sizeLine ∧ Q (.lst ((Txt.split a b).map DV.str)) O
  | _, _, _, _ => False
theorem md_split {X : Cx} : MtD X "str.split" dSplit := by
  refine ⟨fun g0 => MtR_imp mt_split ?_⟩
  rintro x xs H VQ ⟨F, O, d, ds, Q, rs, rx, rr, h, fin⟩
  unfold dSplit at h
  split at h
  · rename_i a y
    cases rx
    obtain ⟨v, rfl, ry⟩ := rr.one
    cases ry
    refine ⟨_, _, rfl, rfl, h.1, h.2.1, fun p hp => ?_⟩
    have s := rs.new hp (.lst ((Txt.split a y).map V.str))
    exact fin _ _ h.2.2 _ _ _ s (.lst upd_same (Reps.of_strs _))
  · exact h.elim

/-! ### targets -/
def dgName (i : Nat) (d : DV) (S : DSt) (O : Own) (Q : DSt → Own → Prop) : Prop := Q (S.set i (some d)) O
abbrev DTGs := List DV → DSt → Own → (DSt → Own → Prop) → Prop
def liftGs (K : KG) (g : DTGs) : TGs := fun vs σ H VQ => ∃ F O S Q ds, RS K F O H ∧ SR K F σ S ∧ Reps K F vs ds ∧ g ds S O Q ∧ FinS K F O H Q VQ
structure DGs (XW : DXK) (X : Cx) (es : List Expr) (t : DTGs) : Prop where
  pgs : ∀ g, Good XW X g → PGs X es (liftGs (kg X g) t)
theorem PGs_imp {X : Cx} {e : List Expr} {t t' : TGs} (h : PGs X e t) (i : ∀ v σ H Q, t' v σ H Q → t v σ H Q) : PGs X e t' := ⟨fun pins s σ H v u Q I r q => h.run pins s σ H v u Q I r (i v σ H Q q)⟩
def dgNil : List DV → DSt → Own → (DSt → Own → Prop) → Prop
  | [], S, O, Q => Q S O
  | _, _, _, _ => False
def dgCons (g : DTG) (u : DTGs) : List DV → DSt → Own → (DSt → Own → Prop) → Prop
  | d :: r, S, O, Q => g d S O fun S' O' => u r S' O' Q
  | [], _, _, _ => False
def dgTup (n : Nat) (t : DTGs) : DV → DSt → Own → (DSt → Own → Prop) → Prop
  | .tup ds, S, O, Q => ds.length = n ∧ t ds S O Q
  | _, _, _, _ => False
def dgLst (n : Nat) (t : DTGs) (d : DV) (S : DSt) (O : Own) (Q : DSt → Own → Prop) : Prop := sqlQ O d fun ds => ds.length = n ∧ t ds S O Q
section
variable {X : Cx} {pos : Pos} {e : Expr} {es : List Expr} {g : DTG} {u : DTGs}
theorem dg_name (i : Nat) {x : Str} (hN : X.N.Nodup) (hi : X.N[i]? = some x := by rfl) (hx : Loc X.env.scope x := by first | exact Or.inl rfl | exact Or.inr rfl) (hf : X.fn x = true ∨ X.env.scope.names.lookup x = some .local := by first | exact .inl rfl | exact .inr rfl) : DG XW X (.Name x pos) (dgName i) := by
  refine ⟨fun g0 hg0 => PG_imp (pg_name hN hi hx hf) ?_⟩
  rintro v σ H VQ ⟨F, O, S, Q, d, rs, sr, r, h, fin⟩
  exact fin _ _ h _ H F (.refl rs) (sr.set i r)
theorem dgs_nil : DGs XW X [] dgNil := by
  refine ⟨fun g0 hg0 => PGs_imp pgs_nil ?_⟩
  rintro v σ H VQ ⟨F, O, S, Q, ds, rs, sr, r, h, fin⟩
  cases r with
  | nil => exact ⟨rfl, fin _ _ h _ H F (.refl rs) sr⟩
  | cons => exact h.elim
theorem dgs_cons (h1 : DG XW X e g) (h2 : DGs XW X es u) (hs : (assignEach (e :: es) X.env).map (·.2) = assign e X.env :: (assignEach es X.env).map (·.2) := by rfl) : DGs XW X (e :: es) (dgCons g u) := by
  refine ⟨fun g0 hg0 => PGs_imp (pgs_cons (h1.pg g0 hg0) (h2.pgs g0 hg0) hs) ?_⟩
  rintro v σ H VQ ⟨F, O, S, Q, ds, rs, sr, r, h, fin⟩
  cases r with
  | nil => exact h.elim
  | @cons w d vs ds rw_ r =>
    exact ⟨w, vs, rfl, F, O, S, _, d, rs, sr, rw_, h, fun S1 O1 q1 σ1 H1 F1 s1 sr1 => ⟨F1, O1, S1, Q, ds, s1.rs, sr1, r.mono s1.sub, q1, fin.step s1⟩⟩
theorem dg_tup {k n : Nat} (hc : X.calm = true) (h : DGs XW X es u) (hn : (assignEach es X.env).length = n := by rfl) (hst : (assignEach es X.env).findIdx? (·.1) = none := by rfl) : DG XW X (.Tuple es k pos) (dgTup n u) := by
  refine ⟨fun g0 hg0 => PG_imp (pg_tup hc (h.pgs g0 hg0) hn hst) ?_⟩
  rintro v σ H VQ ⟨F, O, S, Q, d, rs, sr, r, h, fin⟩
  cases r with
  | @tup a vs ds e r => exact ⟨a, vs, rfl, SqT.of (rs.tup e), by rw [r.len]; exact h.1, F, O, S, Q, ds, rs, sr, r, h.2, fin⟩
  | _ => exact h.elim
theorem dg_lst {k n : Nat} (hc : X.calm = true) (h : DGs XW X es u) (hn : (assignEach es X.env).length = n := by rfl) (hst : (assignEach es X.env).findIdx? (·.1) = none := by rfl) : DG XW X (.Tuple es k pos) (dgLst n u) := by
  refine ⟨fun g0 hg0 => PG_imp (pg_lst hc (h.pgs g0 hg0) hn hst) ?_⟩
  rintro v σ H VQ ⟨F, O, S, Q, d, rs, sr, r, h, fin⟩
  obtain ⟨ds, e, h⟩ := sqlQ_ex h
  obtain ⟨a, vs, rfl, h1, r1⟩ := sqlOf_at rs r e
  exact ⟨a, vs, rfl, h1, by rw [r1.len]; exact h.1, F, O, S, Q, ds, rs, sr, r1, h.2, fin⟩
end
end DL

set_option Elab.async false
set_option linter.all false
set_option maxRecDepth 100000
/-! DLoop: statements, loops, comprehensions, calls, over data. -/
namespace DL
open PySem PySem.Spec PyProof.Rows L2 TL
variable {XW : DXK}

/-! ### o[i] = v -/
abbrev DSet := DV → DV → DV → Own → (Own → Prop) → Prop
def liftSet (K : KG) (r : DSet) : TSet := fun o i v H VQ => ∃ F O d e f Q, RS K F O H ∧ Rep K F o d ∧ Rep K F i e ∧ Rep K F v f ∧ r d e f O Q ∧ ∀ O', Q O' → ∀ H' F', Stp K F O H F' O' H' → VQ H'
structure PSetD (X : Cx) (r : DSet) : Prop where
  ps : ∀ g : G, PSet X (liftSet (kg X g) r)
theorem PSet_imp {X : Cx} {r r' : TSet} (h : PSet X r) (i : ∀ o j v H Q, r' o j v H Q → r o j v H Q) : PSet X r' := fun pins s σ H o i' v ov iv u Q I ro ri rv q => h pins s σ H o i' v ov iv u Q I ro ri rv (i o i' v H Q q)
def dSetL : DV → DV → DV → Own → (Own → Prop) → Prop
  | .ref a, .int k, v, O, Q => onL (O a) fun xs => onSome (ixN xs.length k) fun j => Q (oset O a (.lst (xs.set j v)))
  | _, _, _, _, _ => False
theorem psd_list {X : Cx} : PSetD X dSetL := by
  refine ⟨fun g0 => PSet_imp set_list ?_⟩
  rintro o i v H VQ ⟨F, O, d, e, f, Q, rs, ro, ri, rv, h, fin⟩
  unfold dSetL at h
  split at h
  · rename_i a k
    cases ro; cases ri
    obtain ⟨xs, e, h⟩ := onL_ex h
    obtain ⟨j, e2, h⟩ := onSome_ex h
    obtain ⟨_, vs, h1, r1⟩ := rs.own a _ e
    exact ⟨a, vs, k, j, rfl, rfl, h1, by rw [r1.len]; exact e2, fin _ h _ F (rs.write e ⟨_, upd_same, r1.set rv j⟩)⟩
  · exact h.elim
def dgSub (to ti : DTE) (t : DSet) (v : DV) (S : DSt) (O : Own) (Q : DSt → Own → Prop) : Prop := to S O fun o O1 => ti S O1 fun i O2 => t o i v O2 fun O3 => Q S O3
theorem dg_sub {X : Cx} {o i : Expr} {to ti : DTE} {t : DSet} {pos : Pos} (ho : DE XW X o to) (hi : DE XW X i ti) (hs : PSetD X t)
    (ha : ∀ v, assign (.Subscript o i pos) X.env v = (do
      let ov ← holding [v] (eval o X.env)
      let iv ← holding [v, ov] (eval i X.env)
      standAt pos
      holding [v, ov, iv] (setItem ov iv v)
      release [v, ov, iv] []) := by intro _; rfl) : DG XW X (.Subscript o i pos) (dgSub to ti t) := by
  refine ⟨fun g0 hg0 => PG_imp (pg_sub (ho.pe g0 hg0) (hi.pe g0 hg0) (hs.ps g0) ha) ?_⟩
  rintro v σ H VQ ⟨F, O, S, Q, d, rs, sr, r, h, fin⟩
  exact ⟨F, O, S, _, rs, sr, h, fun d1 O1 h1 v1 H1 F1 s1 r1 => ⟨F1, O1, S, _, s1.rs, sr.mono s1.sub, h1, fun d2 O2 h2 v2 H2 F2 s2 r2 =>
    ⟨F2, O2, d1, d2, d, _, s2.rs, r1.mono s2.sub, r2, r.mono (s1.trans s2).sub, h2, fun O3 h3 H3 F3 s3 => fin _ _ h3 _ H3 F3 (s1.trans (s2.trans s3)) (sr.mono (s1.trans (s2.trans s3)).sub)⟩⟩⟩

/-! ### statements -/
def dNext (D : DEnds) (S : DSt) (O : Own) : Prop := D.nx S O
def dSeq (t u : DTS) (D : DEnds) (S : DSt) (O : Own) : Prop := t { D with nx := u D } S O
def dBreak (D : DEnds) (S : DSt) (O : Own) : Prop := D.bk S O
def dCont (D : DEnds) (S : DSt) (O : Own) : Prop := D.ct S O
def dNever (u0_ : DEnds) (u1_ : DSt) (u2_ : Own) : Prop := False
def dDrop (te : DTE) (D : DEnds) (S : DSt) (O : Own) : Prop := te S O fun _ O1 => D.nx S O1
def dRet (te : DTE) (D : DEnds) (S : DSt) (O : Own) : Prop := te S O D.rt
def dRetN (D : DEnds) (u1_ : DSt) (O : Own) : Prop := D.rt .non O
def dIfS (c : DTT) (t u : DTS) (D : DEnds) (S : DSt) (O : Own) : Prop := c S O fun b O1 => if b = true then t D S O1 else u D S O1
def dAsg (te : DTE) (g : DTG) (D : DEnds) (S : DSt) (O : Own) : Prop := te S O fun x O1 => g x S O1 D.nx
def dAug (i : Nat) (te : DTE) (r : DR2) (D : DEnds) (S : DSt) (O : Own) : Prop := onSome (slot S i) fun x => te S O fun y O1 => r x y O1 fun z O2 => D.nx (S.set i (some z)) O2
/-- what is frozen of an owned cell -/
def frzC : Option Cell → (DV → Prop) → Prop
  | some (.lst xs), K => K (.lst xs)
  | some (.dK xs), K => K (.dK xs)
  | some (.dT xs), K => K (.dT xs)
  | _, _ => False
theorem frzC_at {K : KG} {F H : Hp} {O : Own} {p : Addr} {R : DV → Prop} (rs : RS K F O H) (h : frzC (O p) R) : ∃ d F', R d ∧ Stp K F O H F' (odel O p) H ∧ Rep K F' (.ref p) d := by
  unfold frzC at h
  split at h
  · rename_i xs e
    obtain ⟨F2, s2, r2⟩ := rs.freezeL e
    exact ⟨_, F2, h, s2, r2⟩
  · rename_i xs e
    obtain ⟨F2, s2, r2⟩ := rs.freezeK e
    exact ⟨_, F2, h, s2, r2⟩
  · rename_i xs e
    obtain ⟨F2, s2, r2⟩ := rs.freezeT e
    exact ⟨_, F2, h, s2, r2⟩
  · exact h.elim
def kRef (Q : Addr → Own → Prop) : DV → Own → Prop
  | .ref a, O => Q a O
  | _, _ => False
theorem kRef_ex {Q : Addr → Own → Prop} {d : DV} {O : Own} (h : kRef Q d O) : ∃ a, d = .ref a ∧ Q a O := by
  unfold kRef at h
  split at h
  · exact ⟨_, rfl, h⟩
  · exact h.elim
/-- the owned thing in the i-th slot is frozen ahead -/
def dFrz (i : Nat) (t : DTS) (D : DEnds) (S : DSt) (O : Own) : Prop := onSome (slot S i) fun x => kRef (fun a O => frzC (O a) fun d => t D (S.set i (some d)) (odel O a)) x O
/-- what is given back: an owned list, dict is frozen -/
def dRetF (te : DTE) (D : DEnds) (S : DSt) (O : Own) : Prop := te S O (kRef fun a O1 => frzC (O1 a) fun d => D.rt d (odel O1 a))
section
variable {X : Cx} {st : Stmt} {rest : List Stmt} {t u : DTS} {e : Expr} {te : DTE} {pos : Pos} {g : DTG}
theorem dss_nil : DSs XW X [] dNext := ⟨fun g0 hg0 => PSs_imp pss_nil fun VD σ H ⟨F, O, S, D, rs, sr, h, fin⟩ => fin.nx _ _ h σ H F (.refl rs) sr⟩
theorem dss_cons (h1 : DS XW X st t) (h2 : DSs XW X rest u) : DSs XW X (st :: rest) (dSeq t u) := by
  refine ⟨fun g0 hg0 => PSs_imp (pss_cons (h1.ps g0 hg0) (h2.ps g0 hg0)) ?_⟩
  rintro VD σ H ⟨F, O, S, D, rs, sr, h, fin⟩
  exact ⟨F, O, S, _, rs, sr, h, ⟨fun S1 O1 h1 σ1 H1 F1 s1 sr1 => ⟨F1, O1, S1, D, s1.rs, sr1, h1, fin.step s1⟩, fin.rt, fin.bk, fin.ct⟩⟩
theorem dss_one (h1 : DS XW X st t) : DSs XW X [st] t := ⟨fun g0 hg0 => pss_one (h1.ps g0 hg0)⟩
theorem ds_pass : DS XW X (.Pass pos) dNext := ⟨fun g0 hg0 => PS_imp ps_pass fun VD σ H ⟨F, O, S, D, rs, sr, h, fin⟩ => fin.nx _ _ h σ H F (.refl rs) sr⟩
theorem ds_break : DS XW X (.Break pos) dBreak := ⟨fun g0 hg0 => PS_imp ps_break fun VD σ H ⟨F, O, S, D, rs, sr, h, fin⟩ => fin.bk _ _ h σ H F (.refl rs) sr⟩
theorem ds_continue : DS XW X (.Continue pos) dCont := ⟨fun g0 hg0 => PS_imp ps_continue fun VD σ H ⟨F, O, S, D, rs, sr, h, fin⟩ => fin.ct _ _ h σ H F (.refl rs) sr⟩
theorem ds_never : DS XW X st dNever := ⟨fun g0 hg0 => PS_imp ps_never fun VD σ H ⟨F, O, S, D, rs, sr, h, fin⟩ => h⟩
theorem dss_never : DSs XW X rest dNever := ⟨fun g0 hg0 => PSs_imp pss_never fun VD σ H ⟨F, O, S, D, rs, sr, h, fin⟩ => h⟩
theorem ds_expr (he : DE XW X e te) (hs : swapsWith e none pos.line X.env = pure false := by rfl) : DS XW X (.Expr e pos) (dDrop te) := by
  refine ⟨fun g0 hg0 => PS_imp (ps_expr (he.pe g0 hg0) hs) ?_⟩
  rintro VD σ H ⟨F, O, S, D, rs, sr, h, fin⟩
  exact ⟨F, O, S, _, rs, sr, h, fun d O1 h1 v H1 F1 s1 rv => fin.nx _ _ h1 σ H1 F1 s1 (sr.mono s1.sub)⟩
theorem ds_ret (he : DE XW X e te) : DS XW X (.Return (some e) pos) (dRet te) := by
  refine ⟨fun g0 hg0 => PS_imp (ps_ret (he.pe g0 hg0)) ?_⟩
  rintro VD σ H ⟨F, O, S, D, rs, sr, h, fin⟩
  exact ⟨F, O, S, _, rs, sr, h, fin.rt⟩
theorem ds_retF (he : DE XW X e te) : DS XW X (.Return (some e) pos) (dRetF te) := by
  refine ⟨fun g0 hg0 => PS_imp (ps_ret (he.pe g0 hg0)) ?_⟩
  rintro VD σ H ⟨F, O, S, D, rs, sr, h, fin⟩
  refine ⟨F, O, S, _, rs, sr, h, fun d O1 h1 v H1 F1 s1 rv => ?_⟩
  obtain ⟨a, rfl, h1⟩ := kRef_ex h1
  cases rv
  obtain ⟨d, F2, h2, s2, r2⟩ := frzC_at s1.rs h1
  exact fin.rt _ _ h2 _ H1 F2 (s1.trans s2) r2
theorem ds_retN : DS XW X (.Return none pos) dRetN := ⟨fun g0 hg0 => PS_imp ps_retN fun VD σ H ⟨F, O, S, D, rs, sr, h, fin⟩ => fin.rt _ _ h _ H F (.refl rs) .non⟩
theorem SR.put {K : KG} {F : Hp} {σ : L2.St} {S : DSt} {v : V} {d : DV} (h : SR K F σ S) (i : Nat) (e : σ[i]? = some (some v)) (r : Rep K F v d) : SR K F σ (S.set i (some d)) := by
  refine ⟨by simp [h.1], fun j f q => ?_⟩
  by_cases hj : j = i
  · subst hj
    have hl : j < S.length := by
      have := (List.getElem?_eq_some_iff.mp q).1
      simpa using this
    rw [List.getElem?_set_self hl] at q
    cases q
    exact ⟨v, e, r⟩
  · rw [List.getElem?_set_ne (Ne.symm hj)] at q
    exact h.2 j f q
theorem ds_frz (i : Nat) (h : DS XW X st t) : DS XW X st (dFrz i t) := by
  refine ⟨fun g0 hg0 => PS_imp (h.ps g0 hg0) ?_⟩
  rintro VD σ H ⟨F, O, S, D, rs, sr, h, fin⟩
  obtain ⟨x, e, h⟩ := onSome_ex h
  obtain ⟨a, rfl, h⟩ := kRef_ex h
  obtain ⟨v, h1, r1⟩ := sr.2 i _ (slot_get e)
  cases r1
  obtain ⟨d, F2, h2, s2, r2⟩ := frzC_at rs h
  exact ⟨F2, _, _, D, s2.rs, SR.put (sr.mono s2.sub) i h1 r2, h2, fin.step s2⟩
theorem ds_if {c : Expr} {a b : List Stmt} {tc : DTT} (hc : DT XW X c tc) (ha : DSs XW X a t) (hb : DSs XW X b u) : DS XW X (.If c a b pos) (dIfS tc t u) := by
  refine ⟨fun g0 hg0 => PS_imp (ps_if (hc.pt g0 hg0) (ha.ps g0 hg0) (hb.ps g0 hg0)) ?_⟩
  rintro VD σ H ⟨F, O, S, D, rs, sr, h, fin⟩
  refine ⟨F, O, S, _, rs, sr, h, fun c O1 h1 H1 F1 s1 => ?_⟩
  dsimp only at h1 ⊢
  split
  · rename_i e; rw [if_pos e] at h1
    exact ⟨F1, O1, S, D, s1.rs, sr.mono s1.sub, h1, fin.step s1⟩
  · rename_i e; rw [if_neg e] at h1
    exact ⟨F1, O1, S, D, s1.rs, sr.mono s1.sub, h1, fin.step s1⟩
theorem ds_set (i : Nat) {x : Str} {pos' : Pos} (he : DE XW X e te) (hN : X.N.Nodup) (hi : X.N[i]? = some x := by rfl) (hx : Loc X.env.scope x := by first | exact Or.inl rfl | exact Or.inr rfl) (hs : swapsWith e (some (.Name x pos')) pos.line X.env = pure false := by rfl)
    (hf : X.fn x = true ∨ X.env.scope.names.lookup x = some .local := by first | exact .inl rfl | exact .inr rfl) : DS XW X (.Assign [.Name x pos'] e pos) (dAsg te (dgName i)) := by
  refine ⟨fun g0 hg0 => PS_imp (ps_set hN hi hx (he.pe g0 hg0) hs hf) ?_⟩
  rintro VD σ H ⟨F, O, S, D, rs, sr, h, fin⟩
  exact ⟨F, O, S, _, rs, sr, h, fun d O1 h1 v H1 F1 s1 rv => fin.nx _ _ h1 _ H1 F1 s1 ((sr.mono s1.sub).set i rv)⟩
theorem ds_asg {tg : Expr} (he : DE XW X e te) (hg : DG XW X tg g) (hs : swapsWithSole [tg] e pos.line X.env = pure false := by rfl) (hw : swappedStores [tg] e X.env = pure none := by rfl)
    (h1 : (assignEach [tg] X.env).map (·.2) = [assign tg X.env] := by rfl) : DS XW X (.Assign [tg] e pos) (dAsg te g) := by
  refine ⟨fun g0 hg0 => PS_imp (ps_asg (he.pe g0 hg0) (hg.pg g0 hg0) hs hw h1) ?_⟩
  rintro VD σ H ⟨F, O, S, D, rs, sr, h, fin⟩
  exact ⟨F, O, S, _, rs, sr, h, fun d O1 h1 v H1 F1 s1 rv => ⟨F1, O1, S, _, d, s1.rs, sr.mono s1.sub, rv, h1, fin.nx.step s1⟩⟩
def kPar (i j : Nat) (nx : DSt → Own → Prop) (S : DSt) : List DV → Own → Prop
  | [v, w], O1 => nx ((S.set i (some v)).set j (some w)) O1
  | _, _ => False
theorem kPar_e1 {i j : Nat} {nx : DSt → Own → Prop} {S : DSt} {v w : DV} {O : Own} : kPar i j nx S [v, w] O = nx ((S.set i (some v)).set j (some w)) O := rfl
def dPar (i j : Nat) (ta : DTA) (D : DEnds) (S : DSt) (O : Own) : Prop := ta S O (kPar i j D.nx S)
/-- a, b = x, y with plain local names -/
theorem ds_par (i j : Nat) {x y : Str} {a b : Expr} {ta : DTA} {px py pt : Pos} {kt k2 pt2} (hN : X.N.Nodup) (ha : DA XW X [a, b] ta) (hc : X.calm = true := by rfl) (hi : X.N[i]? = some x := by rfl) (hj : X.N[j]? = some y := by rfl) (hij : i ≠ j := by decide)
    (hx : X.env.scope.names.lookup x = some .local := by rfl) (hy : X.env.scope.names.lookup y = some .local := by rfl)
    (hw : swappedStores [.Tuple [.Name x px, .Name y py] kt pt] (.Tuple [a, b] k2 pt2) X.env = pure (some [x, y]) := by rfl)
    (hs : swapsWithSole [.Tuple [.Name x px, .Name y py] kt pt] (.Tuple [a, b] k2 pt2) pos.line X.env = pure false := by rfl) :
    DS XW X (.Assign [.Tuple [.Name x px, .Name y py] kt pt] (.Tuple [a, b] k2 pt2) pos) (dPar i j ta) := by
  refine ⟨fun g0 hg0 => PS_imp (ps_par hc hN hi hj hij hx hy (ha.pa g0 hg0) hw hs) ?_⟩
  rintro VD σ H ⟨F, O, S, D, rs, sr, h, fin⟩
  refine ⟨F, O, S, _, rs, sr, h, fun ds O1 h1 vs H1 F1 s1 r1 => ?_⟩
  unfold kPar at h1
  split at h1
  · cases r1 with
    | cons ra r1 =>
      cases r1 with
      | cons rb r1 =>
        cases r1
        exact ⟨_, _, rfl, fin.nx _ _ h1 _ H1 F1 s1 (((sr.mono s1.sub).set i ra).set j rb)⟩
  · exact h1.elim
theorem ds_aug (i : Nat) {x : Str} {op : Operator} {r : DR2} {pos' : Pos} (ho : OpD X (inplaceOp op) r) (he : DE XW X e te) (hN : X.N.Nodup) (hi : X.N[i]? = some x := by rfl) (hx : Loc X.env.scope x := by first | exact Or.inl rfl | exact Or.inr rfl)
    (hf : X.fn x = true ∨ X.env.scope.names.lookup x = some .local := by first | exact .inl rfl | exact .inr rfl) : DS XW X (.AugAssign (.Name x pos') op e pos) (dAug i te r) := by
  refine ⟨fun g0 hg0 => PS_imp (ps_aug hN hi hx (he.pe g0 hg0) (ho.op g0) hf) ?_⟩
  rintro VD σ H ⟨F, O, S, D, rs, sr, h, fin⟩
  obtain ⟨d, e, h⟩ := onSome_ex h
  obtain ⟨v, h1, r1⟩ := sr.2 i d (slot_get e)
  exact ⟨v, h1, F, O, S, _, rs, sr, h, fun d2 O2 h2 v2 H2 F2 s2 r2 => ⟨F2, O2, d, d2, _, s2.rs, r1.mono s2.sub, r2, h2, fun d3 O3 h3 v3 H3 F3 s3 r3 => fin.nx _ _ h3 _ H3 F3 (s2.trans s3) ((sr.mono (s2.trans s3).sub).set i r3)⟩⟩
end
def dIAdd : DV → DV → Own → DVK → Prop
  | .int i, .int j, O, Q => Q (.int (i + j)) O
  | .str a, .str b, O, Q => a.length + b.length ≤ sizeLine ∧ Q (.str (a ++ b)) O
  | _, _, _, _ => False
theorem od_iadd {X : Cx} : OpD X (inplaceOp .Add) dIAdd := by
  refine ⟨fun g0 => OpR_imp (iop_add.or iop_add_str) ?_⟩
  rintro x y H VQ ⟨F, O, dx, dy, Q, rs, rx, ry, h, fin⟩
  unfold dIAdd at h
  split at h
  · cases rx; cases ry
    exact .inl ⟨_, _, rfl, rfl, fin _ _ h _ _ F (.refl rs) (.int _)⟩
  · cases rx; cases ry
    exact .inr ⟨_, _, rfl, rfl, h.1, fin _ _ h.2 _ _ F (.refl rs) (.str _)⟩
  · exact h.elim
def dISub : DV → DV → Own → DVK → Prop
  | .int i, .int j, O, Q => Q (.int (i - j)) O
  | _, _, _, _ => False
theorem od_isub {X : Cx} : OpD X (inplaceOp .Sub) dISub := by
  refine ⟨fun g0 => OpR_imp iop_sub ?_⟩
  rintro x y H VQ ⟨F, O, dx, dy, Q, rs, rx, ry, h, fin⟩
  unfold dISub at h
  split at h
  · cases rx; cases ry
    exact ⟨_, _, rfl, rfl, fin _ _ h _ _ F (.refl rs) (.int _)⟩
  · exact h.elim

/-! ### while -/
def whileW (c : DTT) (tb : DTS) (D : DEnds) : Nat → DSt → Own → Prop
  | 0, _, _ => False
  | n + 1, S, O => c S O fun b O1 => if b = true then tb { D with nx := whileW c tb D n, ct := whileW c tb D n, bk := D.nx } S O1 else D.nx S O1
def dWhile (c : DTT) (tb : DTS) (D : DEnds) (S : DSt) (O : Own) : Prop := ∃ n, whileW c tb D n S O
theorem ds_while {X : Cx} {c : Expr} {body : List Stmt} {tc : DTT} {tb : DTS} {pos : Pos} (hp : PassesOwn (model X.prog X.w) X.A X.env X.xe) (hc : DT XW X c tc) (hb : DSs XW X body tb) : DS XW X (.While c body [] pos) (dWhile tc tb) := by
  refine ⟨fun g0 hg0 => PS_imp (ps_while hp (hc.pt g0 hg0) (hb.ps g0 hg0)) ?_⟩
  rintro VD σ H ⟨F, O, S, D, rs, sr, ⟨n, h⟩, fin⟩
  refine ⟨fun m σ' H' => ∃ F' O' S', Stp (kg X g0) F O H F' O' H' ∧ SR X.K F' σ' S' ∧ whileW tc tb D m S' O', ⟨n, F, O, S, .refl rs, sr, h⟩, ?_⟩
  rintro m σ' H' ⟨F', O', S', s', sr', h'⟩
  cases m with
  | zero => exact h'.elim
  | succ m =>
    refine ⟨F', O', S', _, s'.rs, sr', h', fun b O1 h1 H1 F1 s1 => ?_⟩
    dsimp only at h1 ⊢
    split
    · rename_i e; rw [if_pos e] at h1
      refine ⟨fun σ2 H2 => ∃ F2 O2 S2, Stp (kg X g0) F O H F2 O2 H2 ∧ SR X.K F2 σ2 S2 ∧ whileW tc tb D m S2 O2, fun σ2 H2 q => ⟨m, Nat.lt_succ_self m, q⟩, F1, O1, S', _, s1.rs, sr'.mono s1.sub, h1, ?_⟩
      have st := s'.trans s1
      refine ⟨fun S2 O2 h2 σ2 H2 F2 s2 sr2 => ⟨F2, O2, S2, st.trans s2, sr2, h2⟩, fin.rt.step st, fin.nx.step st, fun S2 O2 h2 σ2 H2 F2 s2 sr2 => ⟨F2, O2, S2, st.trans s2, sr2, h2⟩⟩
    · rename_i e; rw [if_neg e] at h1
      exact fin.nx _ _ h1 _ H1 F1 (s'.trans s1) (sr'.mono s1.sub)

/-! ### for -/
def forW (g : DTG) (tb : DTS) (D : DEnds) : List DV → DSt → Own → Prop
  | [], S, O => D.nx S O
  | x :: r, S, O => g x S O fun S2 O2 => tb { D with nx := forW g tb D r, ct := forW g tb D r, bk := D.nx } S2 O2
def dFor (di : DTI) (g : DTG) (tb : DTS) (D : DEnds) (S : DSt) (O : Own) : Prop := di S O fun ds O1 => forW g tb D ds S O1
theorem ds_for {X : Cx} {tg iter : Expr} {body : List Stmt} {di : DTI} {g : DTG} {tb : DTS} {pos : Pos} (hp : PassesOwn (model X.prog X.w) X.A X.env X.xe) (hc : X.calm = true) (hi : DI XW X tg iter di) (hg : DG XW X tg g) (hb : DSs XW X body tb)
    (hs : ∀ x, foldedSetIterable iter X.env x = pure x := by intro _; rfl) : DS XW X (.For tg iter body [] pos) (dFor di g tb) := by
  refine ⟨fun g0 hg0 => PS_imp (ps_for hp hc (hi.pi g0 hg0) (hg.pg g0 hg0) (hb.ps g0 hg0) hs) ?_⟩
  rintro VD σ H ⟨F, O, S, D, rs, sr, h, fin⟩
  refine ⟨F, O, S, _, rs, sr, h, fun ds O1 h1 J H1 F1 s1 y => ?_⟩
  refine ⟨fun i m σ' H' => m = ds.length - i ∧ ∃ F' O' S', Stp (kg X g0) F1 O1 H1 F' O' H' ∧ SR X.K F' σ' S' ∧ forW g tb D (ds.drop i) S' O', ⟨_, rfl, F1, O1, S, .refl s1.rs, sr.mono s1.sub, h1⟩, ?_⟩
  rintro i m σ' H' ⟨em, F', O', S', s', sr', h'⟩
  obtain ⟨y1, y2⟩ := y i O' H' F' s'.sub s'.rs
  by_cases hi : i < ds.length
  · have e0 : ds[i]? = some ds[i] := List.getElem?_eq_getElem hi
    rw [List.drop_eq_getElem_cons hi] at h'
    obtain ⟨hg, hy⟩ := y1 _ e0
    refine .inr ⟨hg, fun σ2 H2 => ∃ F2 O2 S2, Stp (kg X g0) F1 O1 H1 F2 O2 H2 ∧ SR X.K F2 σ2 S2 ∧ forW g tb D (ds.drop (i + 1)) S2 O2, fun σ2 H2 q => ⟨_, ?_, rfl, q⟩, fun x H2 q => ?_⟩
    · omega
    · obtain ⟨F3, s3, r3⟩ := hy x H2 q
      refine ⟨F3, O', S', _, _, s3.rs, sr'.mono s3.sub, r3, h', fun S4 O4 h4 σ4 H4 F4 s4 sr4 => ⟨F4, O4, S4, _, s4.rs, sr4, h4, ?_⟩⟩
      have st := s'.trans (s3.trans s4)
      refine ⟨fun S2 O2 h2 σ2 H2 F2 s2 sr2 => ⟨F2, O2, S2, st.trans s2, sr2, h2⟩, (fin.step s1).rt.step st, (fin.step s1).nx.step st, fun S2 O2 h2 σ2 H2 F2 s2 sr2 => ⟨F2, O2, S2, st.trans s2, sr2, h2⟩⟩
  · rw [List.drop_eq_nil_of_le (by omega)] at h'
    exact .inl ⟨y2 (by omega), fin.nx _ _ h' _ H' F' (s1.trans s') sr'⟩
/-- a while by a word over parameters x : α (the slots f x, the owned things o x) -/
theorem dWhile_by {c : DTT} {tb : DTS} {D : DEnds} {S : DSt} {O : Own} {α : Type} (f : α → DSt) (o : α → Own) (I : α → Prop) (μ : α → Nat) (x0 : α) (hS : f x0 = S) (hO : o x0 = O) (h0 : I x0)
    (step : ∀ (x : α) (nx : DSt → Own → Prop), I x → (∀ y, I y → μ y < μ x → nx (f y) (o y)) → c (f x) (o x) fun b O1 => if b = true then tb { D with nx := nx, ct := nx, bk := D.nx } (f x) O1 else D.nx (f x) O1) : dWhile c tb D S O := by
  have key : ∀ (n : Nat) (x : α), μ x < n → I x → whileW c tb D n (f x) (o x) := by
    intro n
    induction n with
    | zero => intro x h; omega
    | succ n ih => intro x h hI; exact step x _ hI fun y hy hm => ih y (by omega) hy
  subst hS; subst hO
  exact ⟨_, key (μ x0 + 1) x0 (Nat.lt_succ_self _) h0⟩
/-- a for by a word -/
theorem forW_by {g : DTG} {tb : DTS} {D : DEnds} {α : Type} (f : α → DSt) (o : α → Own) (ds : List DV) (I : Nat → α → Prop)
    (step : ∀ (i : Nat) (x : α) (d : DV) (nx : DSt → Own → Prop), ds[i]? = some d → I i x → (∀ y, I (i + 1) y → nx (f y) (o y)) → g d (f x) (o x) fun S2 O2 => tb { D with nx := nx, ct := nx, bk := D.nx } S2 O2)
    (done : ∀ x, I ds.length x → D.nx (f x) (o x)) (x0 : α) {S : DSt} {O : Own} (hS : f x0 = S) (hO : o x0 = O) (h0 : I 0 x0) : forW g tb D ds S O := by
  have key : ∀ (n i : Nat) (x : α), i + n = ds.length → I i x → forW g tb D (ds.drop i) (f x) (o x) := by
    intro n
    induction n with
    | zero =>
      intro i x h hI
      rw [List.drop_eq_nil_of_le (by omega)]
      have : i = ds.length := by omega
      subst this
      exact done x hI
    | succ n ih =>
      intro i x h hI
      have hi : i < ds.length := by omega
      rw [List.drop_eq_getElem_cons hi]
      exact step i x _ _ (List.getElem?_eq_getElem hi) hI fun y hy => ih (i + 1) y (by omega) hy
  subst hS; subst hO
  exact key ds.length 0 x0 (by omega) h0
end DL

set_option Elab.async false
set_option linter.all false
set_option maxRecDepth 100000
/-! DComp: what is walked, comprehensions, calls of defs, over data. -/
namespace DL
open PySem PySem.Spec PyProof.Rows L2 TL
variable {XW : DXK}

/-! ### what is walked -/
theorem yields_lst {K : KG} {F : Hp} {a : Addr} {vs : List V} {ds : List DV} (h : ∀ (O : Own) (H F2 : Hp), Sub F F2 → RS K F2 O H → SqL K H a vs)  (r : Reps K F vs ds) : Yields K F (Itl K a) ds := by
  intro i O H F2 s rs
  have h0 := h O H F2 s rs
  refine ⟨fun d e => ?_, fun e => ⟨vs, h0, by rw [r.len]; exact e⟩⟩
  obtain ⟨v, h1, h2⟩ := r.get e
  refine ⟨⟨vs, v, h0, h1⟩, fun x H' ⟨q1, q2⟩ => ?_⟩
  subst q1
  have := q2 vs h0
  rw [h1] at this; cases this
  exact ⟨F2, .refl rs, h2.mono s⟩
def kLst (Q : List DV → Own → Prop) : DV → Own → Prop
  | .lst xs, O' => Q xs O'
  | .slst xs, O' => Q xs O'
  | _, _ => False
def kTup (Q : List DV → Own → Prop) : DV → Own → Prop
  | .tup xs, O' => Q xs O'
  | .stup xs, O' => Q xs O'
  | _, _ => False
def kStr (Q : Str → Own → Prop) : DV → Own → Prop
  | .str x, O' => Q x O'
  | _, _ => False
def kRng1 (Q : List DV → Own → Prop) : List DV → Own → Prop
  | [.int j], O' => (-(2 ^ 62) ≤ j ∧ j < 2 ^ 62) ∧ Q ((List.range j.toNat).map fun (k : Nat) => .int (k : Int)) O'
  | _, _ => False
def kRng2 (Q : List DV → Own → Prop) : List DV → Own → Prop
  | [.int i, .int j], O' => (-(2 ^ 62) ≤ i ∧ i < 2 ^ 62 ∧ -(2 ^ 62) ≤ j ∧ j < 2 ^ 62) ∧ Q ((List.range (j - i).toNat).map fun (k : Nat) => .int (i + (k : Int))) O'
  | _, _ => False
def dILst (t : DTE) (S : DSt) (O : Own) (Q : List DV → Own → Prop) : Prop := t S O (kLst Q)
def dITup (t : DTE) (S : DSt) (O : Own) (Q : List DV → Own → Prop) : Prop := t S O (kTup Q)
def dIStr (t : DTE) (S : DSt) (O : Own) (Q : List DV → Own → Prop) : Prop := t S O (kStr fun x O' => Q ((tl x).map fun c => .str ⟨#[c]⟩) O')
def dIRng1 (t : DTA) (S : DSt) (O : Own) (Q : List DV → Own → Prop) : Prop := t S O (kRng1 Q)
def dIRng2 (t : DTA) (S : DSt) (O : Own) (Q : List DV → Own → Prop) : Prop := t S O (kRng2 Q)
def enumD : Nat → List DV → List DV
  | _, [] => []
  | n, x :: r => .tup [.int (n : Int), x] :: enumD (n + 1) r
theorem enumD_get : ∀ {xs : List DV} {n i : Nat}, (enumD n xs)[i]? = (xs[i]?).map fun x => .tup [.int ((n + i : Nat) : Int), x]
  | [], _, _ => by simp [enumD]
  | x :: r, n, 0 => by simp [enumD]
  | x :: r, n, i + 1 => by
    have := enumD_get (xs := r) (n := n + 1) (i := i)
    simp only [enumD, List.getElem?_cons_succ, this]
    rw [Nat.add_right_comm n 1 i]; rfl
theorem enumD_len : ∀ {xs : List DV} {n : Nat}, (enumD n xs).length = xs.length
  | [], _ => rfl
  | x :: r, n => by simp [enumD, enumD_len (xs := r)]
def kEnum (Q : List DV → Own → Prop) : List DV → Own → Prop
  | [.lst xs], O' => Q (enumD 0 xs) O'
  | [.slst xs], O' => Q (enumD 0 xs) O'
  | _, _ => False
def dIEnum (t : DTA) (S : DSt) (O : Own) (Q : List DV → Own → Prop) : Prop := t S O (kEnum Q)
def zipD : List DV → List DV → List DV
  | x :: r, y :: q => .tup [x, y] :: zipD r q
  | _, _ => []
theorem zipD_get : ∀ {xs ys : List DV} {i : Nat} {d : DV}, (zipD xs ys)[i]? = some d → ∃ x y, xs[i]? = some x ∧ ys[i]? = some y ∧ d = .tup [x, y]
  | x :: r, y :: q, 0, d, h => by simp [zipD] at h; exact ⟨x, y, rfl, rfl, h.symm⟩
  | x :: r, y :: q, i + 1, d, h => by
    simp only [zipD, List.getElem?_cons_succ] at h
    simpa using zipD_get (xs := r) (ys := q) h
  | [], _, _, _, h => by simp [zipD] at h
  | _ :: _, [], _, _, h => by simp [zipD] at h
theorem zipD_len : ∀ {xs ys : List DV}, (zipD xs ys).length = min xs.length ys.length
  | x :: r, y :: q => by simp [zipD, zipD_len (xs := r) (ys := q)]
  | [], _ => by simp [zipD]
  | _ :: _, [] => by simp [zipD]
def kZip (Q : List DV → Own → Prop) : List DV → Own → Prop
  | [.lst xs, .lst ys], O' => Q (zipD xs ys) O'
  | _, _ => False
def dIZip (t : DTA) (S : DSt) (O : Own) (Q : List DV → Own → Prop) : Prop := t S O (kZip Q)
section
variable {X : Cx} {tg e e2 : Expr} {te : DTE} {ta : DTA} {p pos tpos : Pos}
theorem di_list (h : DE XW X e te) : DI XW X tg e (dILst te) := by
  refine ⟨fun g0 hg0 => PI_imp (pi_list (h.pe g0 hg0)) ?_⟩
  rintro σ H R ⟨F, O, S, Q, rs, sr, h, fin⟩
  refine ⟨F, O, S, _, rs, sr, h, fun d O1 h1 v H1 F1 s1 rv => ?_⟩
  cases rv with
  | @lst a vs ds e r => exact ⟨a, rfl, ⟨vs, SqL.of (s1.rs.lst e)⟩, fin _ _ h1 _ H1 F1 s1 (yields_lst (vs := vs) (fun O H F2 s rs => SqL.of (rs.lst (s _ _ e))) r)⟩
  | @slst a vs ds e r => exact ⟨a, rfl, ⟨vs, s1.rs.sqL e⟩, fin _ _ h1 _ H1 F1 s1 (yields_lst (vs := vs) (fun O H F2 s rs => rs.sqL (SqL.sub s e)) r)⟩
  | _ => exact h1.elim
theorem di_tup (h : DE XW X e te) : DI XW X tg e (dITup te) := by
  refine ⟨fun g0 hg0 => PI_imp (pi_tup (h.pe g0 hg0)) ?_⟩
  rintro σ H R ⟨F, O, S, Q, rs, sr, h, fin⟩
  refine ⟨F, O, S, _, rs, sr, h, fun d O1 h1 v H1 F1 s1 rv => ?_⟩
  cases rv with
  | @tup a vs ds e r =>
    refine ⟨a, rfl, ⟨vs, SqT.of (s1.rs.tup e)⟩, fin _ _ h1 _ H1 F1 s1 ?_⟩
    intro i O H F2 s rs
    have h0 := SqT.of (K := X.K) (rs.tup (s _ _ e))
    refine ⟨fun d e => ?_, fun e => ⟨vs, h0, by rw [r.len]; exact e⟩⟩
    obtain ⟨v, h1, h2⟩ := r.get e
    refine ⟨⟨vs, v, h0, h1⟩, fun x H' ⟨q1, q2⟩ => ?_⟩
    subst q1
    have := q2 vs h0
    rw [h1] at this; cases this
    exact ⟨F2, .refl rs, h2.mono s⟩
  | @stup a vs ds e r =>
    refine ⟨a, rfl, ⟨vs, s1.rs.sqT e⟩, fin _ _ h1 _ H1 F1 s1 ?_⟩
    intro i O H F2 s rs
    have h0 := rs.sqT (SqT.sub s e)
    refine ⟨fun d e => ?_, fun e => ⟨vs, h0, by rw [r.len]; exact e⟩⟩
    obtain ⟨v, h1, h2⟩ := r.get e
    refine ⟨⟨vs, v, h0, h1⟩, fun x H' ⟨q1, q2⟩ => ?_⟩
    subst q1
    have := q2 vs h0
    rw [h1] at this; cases this
    exact ⟨F2, .refl rs, h2.mono s⟩
  | _ => exact h1.elim
theorem di_str (h : DE XW X e te) : DI XW X tg e (dIStr te) := by
  refine ⟨fun g0 hg0 => PI_imp (pi_str (h.pe g0 hg0)) ?_⟩
  rintro σ H R ⟨F, O, S, Q, rs, sr, h, fin⟩
  refine ⟨F, O, S, _, rs, sr, h, fun d O1 h1 v H1 F1 s1 rv => ?_⟩
  cases rv with
  | str z =>
    refine ⟨z, rfl, fin _ _ h1 _ H1 F1 s1 ?_⟩
    intro i O H F2 s rs
    have hl : (tl z).length = z.cps.size := by simp [TL.tl]
    refine ⟨fun d e => ?_, fun e => by show z.cps.size ≤ i; simpa [hl] using e⟩
    rw [List.getElem?_map] at e
    have hi : i < (tl z).length := by
      rcases Nat.lt_or_ge i (tl z).length with q | q
      · exact q
      · rw [List.getElem?_eq_none q] at e; cases e
    refine ⟨by show i < z.cps.size; omega, fun x H' ⟨q1, c, q2, q3⟩ => ?_⟩
    subst q1; subst q3
    have q4 : (tl z)[i]? = some c := by simpa [TL.tl] using q2
    rw [q4] at e; cases e
    exact ⟨F2, .refl rs, .str _⟩
  | _ => exact h1.elim
theorem yields_rng {K : KG} {F : Hp} (lo : Int) (n : Nat) : Yields K F (Itr lo n) ((List.range n).map fun (k : Nat) => .int (lo + (k : Int))) := by
  intro i O H F2 s rs
  refine ⟨fun d e => ?_, fun e => by show n ≤ i; simpa using e⟩
  rw [List.getElem?_map] at e
  have hi : i < n := by
    rcases Nat.lt_or_ge i n with q | q
    · exact q
    · rw [List.getElem?_eq_none (by simpa using q)] at e; cases e
  rw [List.getElem?_range hi] at e
  cases e
  exact ⟨hi, fun x H' ⟨q1, q2⟩ => by subst q1; subst q2; exact ⟨F2, .refl rs, .int _⟩⟩
theorem di_range1 (hm : X.mg "range" = none) (ha : DA XW X [e] ta) (hg : Gl X "range" := by rfl) (hs : starEach [e] X.env = [(false, eval e X.env)] := by rfl) : DI XW X tg (.Call (.Name "range" p) [e] [] pos) (dIRng1 ta) := by
  refine ⟨fun g0 hg0 => PI_imp (pi_range1 hg hm (ha.pa g0 hg0) hs) ?_⟩
  rintro σ H R ⟨F, O, S, Q, rs, sr, h, fin⟩
  refine ⟨F, O, S, _, rs, sr, h, fun ds O1 h1 vs H1 F1 s1 rr => ?_⟩
  unfold kRng1 at h1
  split at h1
  · rename_i j
    obtain ⟨v, rfl, r⟩ := rr.one
    cases r
    refine ⟨j, rfl, h1.1.1, h1.1.2, fin _ _ h1.2 _ H1 F1 s1 ?_⟩
    have := yields_rng (K := kg X g0) (F := F1) 0 j.toNat
    simpa using this
  · exact h1.elim
theorem di_range2 (hm : X.mg "range" = none) (ha : DA XW X [e, e2] ta) (hg : Gl X "range" := by rfl) (hs : starEach [e, e2] X.env = [(false, eval e X.env), (false, eval e2 X.env)] := by rfl) (hs2 : starEach [e2] X.env = [(false, eval e2 X.env)] := by rfl) : DI XW X tg (.Call (.Name "range" p) [e, e2] [] pos) (dIRng2 ta) := by
  refine ⟨fun g0 hg0 => PI_imp (pi_range2 hg hm (ha.pa g0 hg0) hs hs2) ?_⟩
  rintro σ H R ⟨F, O, S, Q, rs, sr, h, fin⟩
  refine ⟨F, O, S, _, rs, sr, h, fun ds O1 h1 vs H1 F1 s1 rr => ?_⟩
  unfold kRng2 at h1
  split at h1
  · rename_i i j
    obtain ⟨v, w, rfl, r, r2⟩ := rr.two
    cases r; cases r2
    exact ⟨i, j, rfl, h1.1, fin _ _ h1.2 _ H1 F1 s1 (yields_rng i (j - i).toNat)⟩
  · exact h1.elim
theorem yields_enum {K : KG} {F : Hp} {a : Addr} {vs : List V} {ds : List DV} (h : ∀ (O : Own) (H F2 : Hp), Sub F F2 → RS K F2 O H → SqL K H a vs) (r : Reps K F vs ds) : Yields K F (Ite K a) (enumD 0 ds) := by
  intro i O H F2 s rs
  have h0 := h O H F2 s rs
  refine ⟨fun d e => ?_, fun e => ⟨vs, h0, by rw [r.len]; rw [enumD_len] at e; exact e⟩⟩
  rw [enumD_get] at e
  cases e1 : ds[i]? with
  | none => rw [e1] at e; cases e
  | some d0 =>
    rw [e1] at e; cases e
    obtain ⟨v, h1, h2⟩ := r.get e1
    refine ⟨⟨vs, v, h0, h1⟩, fun x H' ⟨T, y, q1, q2, q3, q4⟩ => ?_⟩
    subst q1; subst q3
    have := q4 vs h0
    rw [h1] at this; cases this
    have st := rs.new q2 (.tup [.int (i : Nat), v])
    exact ⟨_, st, .tup upd_same (by rw [Nat.zero_add]; exact .cons (.int _) (.cons ((h2.mono s).mono st.sub) .nil))⟩
theorem di_enum {elts : List Expr} {kk : Nat} (hm : X.mg "enumerate" = none) (ha : DA XW X [e] ta) (hg : Gl X "enumerate" := by rfl) (hs : starEach [e] X.env = [(false, eval e X.env)] := by rfl) : DI XW X (.Tuple elts kk tpos) (.Call (.Name "enumerate" p) [e] [] pos) (dIEnum ta) := by
  refine ⟨fun g0 hg0 => PI_imp (pi_enum hg hm (ha.pa g0 hg0) hs) ?_⟩
  rintro σ H R ⟨F, O, S, Q, rs, sr, h, fin⟩
  refine ⟨F, O, S, _, rs, sr, h, fun ds O1 h1 vs H1 F1 s1 rr => ?_⟩
  unfold kEnum at h1
  split at h1
  · obtain ⟨v, rfl, r⟩ := rr.one
    cases r with
    | @lst a vs ds e r => exact ⟨a, vs, rfl, SqL.of (s1.rs.lst e), fin _ _ h1 _ H1 F1 s1 (yields_enum (vs := vs) (fun O H F2 s rs => SqL.of (rs.lst (s _ _ e))) r)⟩
  · obtain ⟨v, rfl, r⟩ := rr.one
    cases r with
    | @slst a vs ds e r => exact ⟨a, vs, rfl, s1.rs.sqL e, fin _ _ h1 _ H1 F1 s1 (yields_enum (vs := vs) (fun O H F2 s rs => rs.sqL (SqL.sub s e)) r)⟩
  · exact h1.elim
end

/-! ### comprehensions -/
def dwipe (S : DSt) : List Nat → DSt
  | [] => S
  | v :: vs => (dwipe S vs).set v none
theorem SR.none {K : KG} {F : Hp} {σ : L2.St} {S : DSt} (h : SR K F σ S) (i : Nat) : SR K F (σ.set i none) (S.set i none) := by
  refine ⟨by simp [h.1], fun j e q => ?_⟩
  by_cases hj : j = i
  · subst hj
    have hl : j < S.length := by
      have := (List.getElem?_eq_some_iff.mp q).1
      simpa using this
    rw [List.getElem?_set_self hl] at q
    cases q
  · rw [List.getElem?_set_ne (Ne.symm hj)] at q ⊢
    exact h.2 j e q
theorem SR.wipe {K : KG} {F : Hp} {σ : L2.St} {S : DSt} (h : SR K F σ S) : ∀ vs : List Nat, SR K F (L2.wipe σ vs) (dwipe S vs)
  | [] => h
  | v :: vs => (SR.wipe h vs).none v
theorem wipe_set {σ : L2.St} {i : Nat} {x : Option V} : ∀ {vs : List Nat}, i ∈ vs → L2.wipe (σ.set i x) vs = L2.wipe σ vs
  | [], h => absurd h (by simp)
  | v :: vs, h => by
    show (L2.wipe (σ.set i x) vs).set v _ = (L2.wipe σ vs).set v _
    by_cases hv : i ∈ vs
    · rw [wipe_set hv]
    · have e : i = v := by
        rcases List.mem_cons.mp h with e | e
        · exact e
        · exact absurd e hv
      subst e
      have : ∀ (us : List Nat), i ∉ us → L2.wipe (σ.set i x) us = (L2.wipe σ us).set i x := by
        intro us
        induction us with
        | nil => intro _; rfl
        | cons u us ih =>
          intro hu
          have h1 : i ∉ us := fun z => hu (List.mem_cons_of_mem _ z)
          have h2 : i ≠ u := fun z => hu (by simp [z])
          show (L2.wipe (σ.set i x) us).set u _ = ((L2.wipe σ us).set u _).set i x
          rw [ih h1, List.set_comm _ _ h2]
      rw [this vs hv, List.set_set]
theorem wipe_wipe {σ : L2.St} {ws : List Nat} : ∀ {vs : List Nat}, (∀ v ∈ vs, v ∈ ws) → L2.wipe (L2.wipe σ vs) ws = L2.wipe σ ws
  | [], _ => rfl
  | v :: vs, h => by
    show L2.wipe ((L2.wipe σ vs).set v _) ws = _
    rw [wipe_set (h v List.mem_cons_self)]
    exact wipe_wipe fun u hu => h u (List.mem_cons_of_mem _ hu)
/-- a comprehension's target -/
structure TgtOk (K : PySem.W.Frag) (g : TG) (b : DV → DSt → Option DSt) (vs : List Nat) : Prop where
  ok : ∀ {F : Hp} {O : Own} {H : Hp} {v : V} {d : DV} {σ : L2.St} {S S2 : DSt} {Q : L2.St → Hp → Prop}, RS0 K F O H → Rep K F v d → SR K F σ S → b d S = some S2 → (∀ σ2, SR K F σ2 S2 → L2.wipe σ2 vs = L2.wipe σ vs → Q σ2 H) → g v σ H Q
def bind1 (i : Nat) : DV → DSt → Option DSt := fun d S => some (S.set i (some d))
theorem tgt_1 {K : PySem.W.Frag} {i : Nat} {vs : List Nat} (hi : i ∈ vs) : TgtOk K (gName i) (bind1 i) vs :=
  ⟨fun rs r sr e h => by cases e; exact h _ (sr.set i r) (wipe_set hi)⟩
def setAll : DSt → List Nat → List DV → Option DSt
  | S, [], [] => some S
  | S, i :: is, d :: ds => setAll (S.set i (some d)) is ds
  | _, _, _ => none
def bindN (is : List Nat) : DV → DSt → Option DSt
  | .tup ds, S => setAll S is ds
  | _, _ => none
def gNames : List Nat → TGs
  | [] => gNil
  | i :: is => gCons (gName i) (gNames is)
theorem setAll_ok {K : PySem.W.Frag} {F : Hp} {H : Hp} {vs : List Nat} {Q : L2.St → Hp → Prop} : ∀ {is : List Nat} {S S2 : DSt} {σ : L2.St} {ws : List V} {ds : List DV}, (∀ i ∈ is, i ∈ vs) → Reps K F ws ds → SR K F σ S → setAll S is ds = some S2 →
    (∀ σ2, SR K F σ2 S2 → L2.wipe σ2 vs = L2.wipe σ vs → Q σ2 H) → ws.length = is.length ∧ gNames is ws σ H Q
  | [], S, S2, σ, ws, [], hi, r, sr, e, h => by
    cases r; cases e
    exact ⟨rfl, rfl, h σ sr rfl⟩
  | i :: is, S, S2, σ, ws, d :: ds, hi, r, sr, e, h => by
    cases r with | @cons v _ ws _ r1 r2 =>
    have q := setAll_ok (H := H) (Q := Q) (is := is) (fun j hj => hi j (List.mem_cons_of_mem _ hj)) r2 (sr.set i r1) e (fun σ2 h1 h2 => h σ2 h1 (h2.trans (wipe_set (hi i List.mem_cons_self))))
    exact ⟨by simp [q.1], v, ws, rfl, q.2⟩
  | [], _, _, _, _, _ :: _, _, _, _, e, _ => by cases e
  | _ :: _, _, _, _, _, [], _, _, _, e, _ => by cases e
theorem tgt_N {K : PySem.W.Frag} {is : List Nat} {n : Nat} {vs : List Nat} (hi : ∀ i ∈ is, i ∈ vs) (hn : is.length = n) : TgtOk K (gTup K n (gNames is)) (bindN is) vs := by
  refine ⟨fun {F O H v d σ S S2 Q} rs r sr e h => ?_⟩
  unfold bindN at e
  split at e
  · cases r with | @tup a ws ds e1 r1 =>
    obtain ⟨q1, q2⟩ := setAll_ok hi r1 sr e h
    exact ⟨a, ws, rfl, SqT.of (rs.low.tup e1), q1.trans hn, q2⟩
  · cases e
structure DTs (XW : DXK) (X : Cx) (ifs : List Expr) (t : DTT) : Prop where
  pts : ∀ g, Good XW X g → PTs X ifs (liftT (kg X g) t)
def dYes (u0_ : DSt) (O : Own) (Q : Bool → Own → Prop) : Prop := Q true O
theorem PTs_imp {X : Cx} {e : List Expr} {t t' : TT} (h : PTs X e t) (i : ∀ σ H Q, t' σ H Q → t σ H Q) : PTs X e t' := ⟨fun pins s σ H Q I q => h.run pins s σ H Q I (i σ H Q q)⟩
theorem dts_nil {X : Cx} : DTs XW X [] dYes := ⟨fun g0 hg0 => PTs_imp pts_nil fun σ H VQ ⟨F, O, S, Q, rs, sr, h, fin⟩ => fin _ _ h H F (.refl rs)⟩
theorem dts_one {X : Cx} {c : Expr} {t : DTT} (h : DT XW X c t) : DTs XW X [c] t := ⟨fun g0 hg0 => pts_one (h.pt g0 hg0)⟩
/-- something beside -/
theorem Stp.side {K : KG} {F H F' H' : Hp} {O O' : Own} {D : Addr} (r : RS K F O H) (s : Stp K F O H F' O' H') (h : H D = none) (hf : F' D = none) (ho : O' D = none) (o : HO) : Stp K F O H F' O' (upd H' D o) := by
  refine Stp.mk' r s.sub ⟨fun b u e => ?_, fun b c e => ?_⟩ (fun b u h1 h2 => ?_) s.nof
  · rw [upd_ne (fun z => by subst z; rw [hf] at e; cases e)]; exact s.rs.fro b u e
  · obtain ⟨h1, h2⟩ := s.rs.own b c e
    exact ⟨h1, h2.mono (Sub.refl _) (upd_ne (fun z => by subst z; rw [ho] at e; cases e))⟩
  · obtain ⟨h3, h4⟩ := s.keep b u h1 h2
    exact ⟨by rw [upd_ne (fun z => by subst z; rw [h] at h1; cases h1)]; exact h3, h4⟩
/-- the new list: frozen, or owned -/
def endLc : Bool → DVK → List DV → Own → Prop
  | false, Q, acc, O => Q (.lst acc) O
  | true, Q, acc, O => ∀ p, O p = none → Q (.ref p) (oset O p (.lst acc))
theorem endLc_ok {K : KG} {F H F' H' : Hp} {O O' : Own} {D : Addr} {vacc : List V} {acc : List DV} {ow : Bool} {Q : DVK} {VQ : VK} (r : RS K F O H) (s' : Stp K F O H F' O' H') (hD : H D = none) (hd' : H' D = some (.lst vacc)) (hf' : F' D = none) (ho' : O' D = none) (ra : Reps K F' vacc acc)
    (h : endLc ow Q acc O') (fin : FinE K F O H Q VQ) : VQ (.ref D) H' := by
  cases ow with
  | false =>
    refine fin _ _ h _ H' (upd F' D (.lst vacc)) (Stp.mk' r (s'.sub.trans (Sub.upd hf')) ⟨fun b u e => ?_, fun b c e => ?_⟩ s'.keep (fun b u h1 h2 h3 => ?_)) (.lst upd_same (ra.mono (Sub.upd hf')))
    · by_cases hb : b = D
      · subst hb; rw [upd_same] at e; cases e; exact .inl hd'
      · rw [upd_ne hb] at e; exact s'.rs.fro b u e
    · have hb : b ≠ D := fun z => by subst z; rw [ho'] at e; cases e
      obtain ⟨h3, h4⟩ := s'.rs.own b c e
      exact ⟨by rw [upd_ne hb]; exact h3, h4.mono (Sub.upd hf') rfl⟩
    · rw [upd_ne (fun z => by subst z; rw [hD] at h1; cases h1)]; exact s'.nof b u h1 h2 h3
  | true =>
    refine fin _ _ (h D ho') _ H' F' (Stp.mk' r s'.sub ⟨s'.rs.fro, fun b c e => ?_⟩ (fun b u h1 h2 => ?_) s'.nof) (.ref D)
    · by_cases hb : b = D
      · subst hb; rw [oset_same] at e; cases e
        exact ⟨hf', vacc, hd', ra⟩
      · rw [oset_ne hb] at e; exact s'.rs.own b c e
    · have hb : b ≠ D := fun z => by subst z; rw [hD] at h1; cases h1
      rw [oset_ne hb]; exact s'.keep b u h1 h2
def lcW (ow : Bool) (b : DV → DSt → Option DSt) (tt : DTT) (te : DTE) (S : DSt) (Q : DVK) : List DV → List DV → Own → Prop
  | [], acc, O => endLc ow Q acc O
  | x :: r, acc, O => onSome (b x S) fun S2 => tt S2 O fun c O2 => if c = true then te S2 O2 fun y O3 => acc.length < 16000000 ∧ lcW ow b tt te S Q r (acc ++ [y]) O3 else lcW ow b tt te S Q r acc O2
def dLc (ow : Bool) (di : DTI) (b : DV → DSt → Option DSt) (tt : DTT) (te : DTE) (vs : List Nat) (S : DSt) (O : Own) (Q : DVK) : Prop := di S O fun ds O1 => lcW ow b tt te (dwipe S vs) Q ds [] O1
theorem lc_line {n : Nat} (h : n < 16000000) : n < sizeLine := by
  have := sizeLine_eq
  omega
theorem liftLc {K : KG} {ow : Bool} {di : DTI} {g : TG} {b : DV → DSt → Option DSt} {tt : DTT} {te : DTE} {vs : List Nat} (hg : TgtOk K.f g b vs) {σ : L2.St} {H : Hp} {VQ : VK} (h : liftE K (dLc ow di b tt te vs) σ H VQ) :
    tLc (liftI K di) g (liftT ⟨K.f, X0, L2.E0⟩ tt) (liftE ⟨K.f, X0, L2.E0⟩ te) vs σ H VQ := by
  obtain ⟨F, O, S, Q, rs, sr, h, fin⟩ := h
  refine ⟨F, O, S, _, rs, sr, h, fun ds O1 h1 J H1 F1 s1 y D hD => ?_⟩
  obtain ⟨hf1, ho1⟩ := s1.rs.free hD
  refine ⟨fun i m H' => m = ds.length - i ∧ ∃ F' O' acc vacc, Stp K F1 O1 H1 F' O' H' ∧ H' D = some (.lst vacc) ∧ F' D = none ∧ O' D = none ∧ Reps K F' vacc acc ∧ lcW ow b tt te (dwipe S vs) Q (ds.drop i) acc O',
    ⟨_, rfl, F1, O1, [], [], (Stp.refl s1.rs).side s1.rs hD hf1 ho1 _, upd_same, hf1, ho1, .nil, h1⟩, ?_⟩
  rintro i m H' ⟨em, F', O', acc, vacc, s', hd', hf', ho', ra, h'⟩
  obtain ⟨y1, y2⟩ := y i O' H' F' s'.sub s'.rs
  by_cases hi : i < ds.length
  · have e0 : ds[i]? = some ds[i] := List.getElem?_eq_getElem hi
    rw [List.drop_eq_getElem_cons hi] at h'
    obtain ⟨hgo, hy⟩ := y1 _ e0
    refine .inr ⟨hgo, fun H2 => ∃ F' O' acc vacc, Stp K F1 O1 H1 F' O' H2 ∧ H2 D = some (.lst vacc) ∧ F' D = none ∧ O' D = none ∧ Reps K F' vacc acc ∧ lcW ow b tt te (dwipe S vs) Q (ds.drop (i + 1)) acc O', fun H2 q => ⟨_, ?_, rfl, q⟩, fun x H2 q => ?_⟩
    · omega
    · obtain ⟨F3, s3, r3⟩ := hy x H2 q
      unfold lcW at h'
      obtain ⟨S2, e2, h'⟩ := onSome_ex h'
      · refine hg.ok s3.rs.z r3 (((sr.mono s1.sub).mono s'.sub).mono s3.sub |>.wipe vs) e2 fun σ2 sr2 ew => ⟨ew.trans (wipe_wipe fun _ h => h), F3, O', S2, _, s3.rs.drop, sr2, h', fun c O4 h4 H4 F4 s4' => ?_⟩
        have s4 := s4'.up s3.rs
        have st4 := s3.trans s4
        dsimp only at h4 ⊢
        split
        · rename_i e; rw [if_pos e] at h4
          refine ⟨F4, O4, S2, _, s4.rs.drop, sr2.mono s4.sub, h4, fun d O5 h5 v H5 F5 s5' r5 => ?_⟩
          have s5 := s5'.up s4.rs
          have st5 := st4.trans s5
          obtain ⟨k1, k2⟩ := st5.keep D _ hd' ho'
          have k3 := st5.nof D _ hd' ho' hf'
          exact ⟨vacc, k1, by rw [ra.len]; exact lc_line h5.1, F5, O5, _, _, (s'.trans st5).side s1.rs hD k3 k2 _, upd_same, k3, k2, (ra.mono st5.sub).append (.cons r5 .nil), h5.2⟩
        · rename_i e; rw [if_neg e] at h4
          obtain ⟨k1, k2⟩ := st4.keep D _ hd' ho'
          have k3 := st4.nof D _ hd' ho' hf'
          exact ⟨F4, O4, acc, vacc, s'.trans st4, k1, k3, k2, ra.mono st4.sub, h4⟩
  · rw [List.drop_eq_nil_of_le (by omega)] at h'
    exact .inl ⟨y2 (by omega), endLc_ok s1.rs s' hD hd' hf' ho' ra h' (fin.step s1)⟩
section
variable {X : Cx}
theorem de_lc (ow : Bool) {elt tg iter : Expr} {ifs : List Expr} {scope : Scope} {own : List (Str × Nat)} {pos : Pos} {di : DTI} {g : TG} {b : DV → DSt → Option DSt} {tt : DTT} {te : DTE} (hc : X.calm = true) (hN : X.N.Nodup) (hi : DI XW X tg iter di) (ok : BlkOk X.N X.env.scope scope own) (hT : TgtOk X.K g b (own.map (·.2)))
    (hg : ∀ (s : Shared) (H : Hp) (C : Addr) (cl : List (Str × Addr)) (fp : List Addr), PG (X.blk s H scope (compEnvC scope cl C X.env) fp) tg g) (ht : ∀ (s : Shared) (H : Hp) (C : Addr) (cl : List (Str × Addr)) (fp : List Addr), DTs X0 (X.blk s H scope (compEnvC scope cl C X.env) fp) ifs tt)
    (he : ∀ (s : Shared) (H : Hp) (C : Addr) (cl : List (Str × Addr)) (fp : List Addr), DE X0 (X.blk s H scope (compEnvC scope cl C X.env) fp) elt te) (hs : ∀ x, foldedSetIterable iter X.env x = pure x := by intro _; rfl) :
    DE XW X (.ListComp elt [⟨tg, iter, ifs, 0⟩] scope pos) (dLc ow di b tt te (own.map (·.2))) :=
  ⟨fun g0 hg0 => PE_imp (pe_lc (te := liftE ⟨X.K, X0, L2.E0⟩ te) (tt := liftT ⟨X.K, X0, L2.E0⟩ tt) hc hN (hi.pi g0 hg0) ok hg (fun s H C cl fp => (ht s H C cl fp).pts (X0, L2.E0) (good_of (takesL) fun _ _ _ h => h)) (fun s H C cl fp => (he s H C cl fp).pe (X0, L2.E0) (good_of (takesL) fun _ _ _ h => h)) hs) fun _ _ _ h => liftLc hT h⟩
theorem ds_setLc (ow : Bool) (i : Nat) {y : Str} {py : Pos} {elt tg iter : Expr} {ifs : List Expr} {scope : Scope} {own : List (Str × Nat)} {pos spos : Pos} {di : DTI} {g : TG} {b : DV → DSt → Option DSt} {tt : DTT} {te : DTE} (hc : X.calm = true) (hN : X.N.Nodup) (hsw : swapsWith (.ListComp elt [⟨tg, iter, ifs, 0⟩] scope pos) (some (.Name y py)) spos.line X.env = pure true) (hi : DI XW X tg iter di) (ok : BlkOk X.N X.env.scope scope own) (hT : TgtOk X.K g b (own.map (·.2)))
    (hg : ∀ (s : Shared) (H : Hp) (C : Addr) (cl : List (Str × Addr)) (fp : List Addr), PG (X.blk s H scope (compEnvC scope cl C X.env) fp) tg g) (ht : ∀ (s : Shared) (H : Hp) (C : Addr) (cl : List (Str × Addr)) (fp : List Addr), DTs X0 (X.blk s H scope (compEnvC scope cl C X.env) fp) ifs tt)
    (he : ∀ (s : Shared) (H : Hp) (C : Addr) (cl : List (Str × Addr)) (fp : List Addr), DE X0 (X.blk s H scope (compEnvC scope cl C X.env) fp) elt te) (hy : X.N[i]? = some y := by rfl) (hyl : X.env.scope.names.lookup y = some .local := by rfl) (hs : ∀ x, foldedSetIterable iter X.env x = pure x := by intro _; rfl) :
    DS XW X (.Assign [.Name y py] (.ListComp elt [⟨tg, iter, ifs, 0⟩] scope pos) spos) (dAsg (dLc ow di b tt te (own.map (·.2))) (dgName i)) := by
  refine ⟨fun g0 hg0 => PS_imp (ps_setLc (i := i) (te := liftE ⟨X.K, X0, L2.E0⟩ te) (tt := liftT ⟨X.K, X0, L2.E0⟩ tt) hc hN hy hyl hsw (hi.pi g0 hg0) ok hg (fun s H C cl fp => (ht s H C cl fp).pts (X0, L2.E0) (good_of (takesL) fun _ _ _ h => h)) (fun s H C cl fp => (he s H C cl fp).pe (X0, L2.E0) (good_of (takesL) fun _ _ _ h => h)) hs) ?_⟩
  rintro VD σ H ⟨F, O, S, D, rs, sr, h, fin⟩
  exact liftLc hT ⟨F, O, S, _, rs, sr, h, fun d O1 h1 v H1 F1 s1 rv => fin.nx _ _ h1 _ H1 F1 s1 ((sr.mono s1.sub).set i rv)⟩
end
end DL

set_option Elab.async false
set_option linter.all false
set_option maxRecDepth 100000
/-! DCall: defs and their calls, over data. -/
namespace DL
open PySem PySem.Spec PyProof.Rows L2 TL
variable {XW : DXK}

abbrev DSp := List DV → Own → DVK → DXK → Prop
/-- what is wanted of a value, told without a wish for exceptions -/
def FinE0 (K : PySem.W.Frag) (F : Hp) (O : Own) (H : Hp) (Q : DVK) (VQ : VK) : Prop := ∀ d O', Q d O' → ∀ v H' F', Raw F O H F' O' H' → RS0 K F' O' H' → Rep K F' v d → VQ v H'
theorem FinE.z {K : KG} {F H : Hp} {O : Own} {Q : DVK} {VQ : VK} (h : FinE K F O H Q VQ) (r : RS K F O H) : FinE0 K.f F O H Q VQ := fun d O' q v H' F' s rs rv => h d O' q v H' F' (Stp.mk' r s.sub rs s.keep s.nof) rv
theorem FinE0.up {K : KG} {F H : Hp} {O : Own} {Q : DVK} {VQ : VK} (h : FinE0 K.f F O H Q VQ) : FinE K F O H Q VQ := fun d O' q v H' F' s rv => h d O' q v H' F' s.raw s.rs.z rv
def liftSp (K : PySem.W.Frag) (sp : DSp) : Sp := fun vs H Q E => ∃ F O ds QD ED, RS0 K F O H ∧ Reps K F vs ds ∧ sp ds O QD ED ∧ FinE0 K F O H QD Q ∧ FinX0 K ED E F O H
/-- a promise that is asked -/
def callsp (sp : DSp) (ds : List DV) (O : Own) (Q : DVK) (E : DXK) : Prop := sp ds O Q E
def dCall (sp : DSp) (t : DTA) (S : DSt) (O : Own) (Q : DVK) : Prop := t S O fun ds O1 => callsp sp ds O1 Q X0
def dCallX (XW : DXK) (sp : DSp) (t : DTA) (S : DSt) (O : Own) (Q : DVK) : Prop := t S O fun ds O1 => callsp sp ds O1 Q XW
section
variable {X : Cx} {k : Nat} {f : Addr} {fd : FuncData} {ps : List Str} {sp : DSp} {x : Str} {p pos : Pos} {e : Expr} {es : List Expr} {t : DTA} {CXX : CXT}
theorem x0_fin {K : PySem.W.Frag} {E : XK} {F H : Hp} {O : Own} : FinX0 K X0 E F O H := fun _ _ _ h => h.elim
theorem xw_fin {K : KG} {F H : Hp} {O : Own} (r : RS K F O H) (h : ∀ C fs O, XW C fs O → K.ed C fs O) : FinX0 K.f XW K.e F O H := fun C fs O' q => r.xf C fs O' (h _ _ _ q)
theorem liftCall {K : KG} {sp : DSp} {t : DTA} {σ : L2.St} {H : Hp} {VQ : VK} (h : liftE K (dCall sp t) σ H VQ) : tCall (liftSp K sp) [] E0 (liftA K t) σ H VQ := by
  obtain ⟨F, O, S, Q, rs, sr, h, fin⟩ := h
  exact ⟨F, O, S, _, rs, sr, h, fun ds O1 h1 vs H1 F1 s1 r1 => ⟨F1, O1, ds, Q, X0, s1.rs.z, by simpa using r1, h1, (fin.step s1).z s1.rs, x0_fin⟩⟩
theorem liftCallX {K : KG} {sp : DSp} {t : DTA} {σ : L2.St} {H : Hp} {VQ : VK} (hw : ∀ C fs O, XW C fs O → K.ed C fs O) (h : liftE K (dCallX XW sp t) σ H VQ) : tCall (liftSp K sp) [] K.e (liftA K t) σ H VQ := by
  obtain ⟨F, O, S, Q, rs, sr, h, fin⟩ := h
  exact ⟨F, O, S, _, rs, sr, h, fun ds O1 h1 vs H1 F1 s1 r1 => ⟨F1, O1, ds, Q, XW, s1.rs.z, by simpa using r1, h1, (fin.step s1).z s1.rs, xw_fin s1.rs hw⟩⟩
/-- f(e, ..), nothing is raised -/
theorem de_call (G : FnOk X.prog X.w X.K X.mg X.base CX0 k f fd ps (liftSp X.K sp)) (hr : Room k X.A) (hm : X.mg x = some (.ref f)) (hk : PySem.W.keepIn X.K (.ref f) = true) (hb : Binds X.K fd ps [])
    (ha : DA XW X (e :: es) t) (hg : Gl X x := by rfl) (hdb : (x == ("__debug__" : Str)) = false := by decide) (he : starEach (e :: es) X.env = (false, eval e X.env) :: starEach es X.env := by rfl) (hpl : (backTo pos (starEach es X.env)).any (·.1) = false := by rfl) :
    DE XW X (.Call (.Name x p) (e :: es) [] pos) (dCall sp t) :=
  ⟨fun g0 hg0 => PE_imp (pe_call G hr hg hm hk hb .nil pass0 (ha.pa g0 hg0) hdb he hpl) fun _ _ _ h => liftCall h⟩
theorem de_call0 (G : FnOk X.prog X.w X.K X.mg X.base CX0 k f fd ps (liftSp X.K sp)) (hr : Room k X.A) (hm : X.mg x = some (.ref f)) (hk : PySem.W.keepIn X.K (.ref f) = true) (hb : Binds X.K fd ps [])
    (hg : Gl X x := by rfl) (hdb : (x == ("__debug__" : Str)) = false := by decide) :
    DE XW X (.Call (.Name x p) [] [] pos) (dCall sp dANil) := by
  refine ⟨fun g0 hg0 => PE_imp (pe_call0 G hr hg hm hk hb .nil pass0 hdb) ?_⟩
  rintro σ H VQ ⟨F, O, S, Q, rs, sr, h, fin⟩
  exact ⟨F, O, [], Q, X0, rs.z, .nil, h, fin.z rs, x0_fin⟩
/-- f(e, ..), which may raise -/
theorem de_callX (G : FnOk X.prog X.w X.K X.mg X.base (L2.CX X.prog X.w) k f fd ps (liftSp X.K sp)) (hr : Room k X.A) (hm : X.mg x = some (.ref f)) (hk : PySem.W.keepIn X.K (.ref f) = true) (hb : Binds X.K fd ps [])
    (ha : DA XW X (e :: es) t) (hg : Gl X x := by rfl) (hdb : (x == ("__debug__" : Str)) = false := by decide) (he : starEach (e :: es) X.env = (false, eval e X.env) :: starEach es X.env := by rfl) (hpl : (backTo pos (starEach es X.env)).any (·.1) = false := by rfl) :
    DE XW X (.Call (.Name x p) (e :: es) [] pos) (dCallX XW sp t) :=
  ⟨fun g0 hg0 => PE_imp (pe_call G hr hg hm hk hb .nil hg0.pass (ha.pa g0 hg0) hdb he hpl) fun _ _ _ h => liftCallX (K := kg X g0) hg0.2 h⟩
end
def dstart : Nat → List DV → DSt
  | 0, _ => []
  | n + 1, [] => none :: dstart n []
  | n + 1, d :: ds => some d :: dstart n ds
theorem dstart_eq : ∀ {n : Nat} {ds : List DV}, ds.length ≤ n → dstart n ds = ds.map some ++ List.replicate (n - ds.length) none
  | 0, [], _ => rfl
  | 0, _ :: _, h => by simp at h
  | n + 1, [], _ => by
    have := dstart_eq (n := n) (ds := []) (Nat.zero_le _)
    show none :: dstart n [] = _
    rw [this]; simp [List.replicate_succ]
  | n + 1, d :: ds, h => by
    have := dstart_eq (n := n) (ds := ds) (by simpa using h)
    show some d :: dstart n ds = _
    rw [this]; simp
section
variable {P : Program} {w : World} {K : PySem.W.Frag} {mg : Str → Option Value} {base : Heap}
theorem body_fin {K : KG} {F H : Hp} {O : Own} {QD : DVK} {Q : VK} (fin : FinE K F O H QD Q) : FinD K F O H { nx := fun _ O' => QD .non O', rt := QD } { nx := fun _ H' => Q .non H', rt := Q } :=
  ⟨fun S1 O1 q σ1 H1 F1 s1 sr1 => fin _ _ q _ H1 F1 s1 .non, fin, fun _ _ h => h.elim, fun _ _ h => h.elim⟩
/-- a def's body keeps its promise; nothing leaves it -/
theorem DFun.ok {x qual : Str} {st : Stmt} {f : Addr} {fd : FuncData} {N ps : List Str} {k : Nat} {sp : DSp} (F : Fun K x qual st f fd) (S : FnScope N ps (defScope st)) (hn : ps.length ≤ N.length) (len : ∀ ds O Q E, sp ds O Q E → ds.length = ps.length)
    (hbody : ∀ (cdv : Value) (A : Around) (outer : List Env) (s : Shared) (H : Hp) (E : XK) (ds : List DV) (O : Own) (Q : DVK) (ED : DXK), Room k (A.deeper (envOfC qual (defScope st) s.heap.objs.size f cdv)) → sp ds O Q ED →
      ∃ t, DSs X0 (cxOf CX0 P w K mg base N qual (defScope st) f cdv A outer s H E).nox (defBody st) t ∧ t { nx := fun _ O' => Q .non O', rt := Q } (dstart N.length ds) O) : FnOk P w K mg base CX0 (k + 1) f fd ps (liftSp K sp) := by
  refine F.ok S (fun vs H Q E h => ?_) (fun cdv A outer s H vs Q E hr h => ?_)
  · obtain ⟨F, O, ds, QD, ED, rs, r, h, _⟩ := h
    rw [r.len]; exact len _ _ _ _ h
  · obtain ⟨F, O, ds, QD, ED, rs, r, h, fin, _⟩ := h
    obtain ⟨t, h1, h2⟩ := hbody cdv A outer s H E ds O QD ED hr h
    refine ⟨_, h1.ps (X0, L2.E0) (good_of (takesL) fun _ _ _ h => h), F, O, _, _, rs.low, ?_, h2, body_fin fin.up⟩
    have hl := len _ _ _ _ h
    rw [dstart_eq (by omega)]
    exact SR.start N r
/-- a def's body that may raise -/
theorem DFun.okX {x qual : Str} {st : Stmt} {f : Addr} {fd : FuncData} {N ps : List Str} {k : Nat} {sp : DSp} (F : Fun K x qual st f fd) (S : FnScope N ps (defScope st)) (hn : ps.length ≤ N.length) (len : ∀ ds O Q E, sp ds O Q E → ds.length = ps.length)
    (hbody : ∀ (cdv : Value) (A : Around) (outer : List Env) (s : Shared) (H : Hp) (E : XK) (ds : List DV) (O : Own) (Q : DVK) (ED : DXK), Room k (A.deeper (envOfC qual (defScope st) s.heap.objs.size f cdv)) → sp ds O Q ED →
      ∃ t, DSs ED (cxOf (L2.CX P w) P w K mg base N qual (defScope st) f cdv A outer s H E) (defBody st) t ∧ t { nx := fun _ O' => Q .non O', rt := Q } (dstart N.length ds) O) : FnOk P w K mg base (L2.CX P w) (k + 1) f fd ps (liftSp K sp) := by
  refine F.okX S (fun vs H Q E h => ?_) (fun cdv A outer s H vs Q E hr h => ?_)
  · obtain ⟨F, O, ds, QD, ED, rs, r, h, _⟩ := h
    rw [r.len]; exact len _ _ _ _ h
  · obtain ⟨F, O, ds, QD, ED, rs, r, h, fin, finx⟩ := h
    obtain ⟨t, h1, h2⟩ := hbody cdv A outer s H E ds O QD ED hr h
    refine ⟨_, h1.ps (ED, E) (good_of (takes_of rfl rfl rfl rfl) fun _ _ _ h => h), F, O, _, _, ⟨rs.fro, rs.own, finx⟩, ?_, h2, body_fin (K := ⟨K, ED, E⟩) fin.up⟩
    have hl := len _ _ _ _ h
    rw [dstart_eq (by omega)]
    exact SR.start N r
/-- a promise that is never asked -/
theorem fn_false {CXX : CXT} {f : Addr} {fd : FuncData} {ps : List Str} {k : Nat} {sp : DSp} (h : ∀ ds O Q E, sp ds O Q E → False) : FnOk P w K mg base CXX k f fd ps (liftSp K sp) where
  len := fun vs H Q E ⟨F, O, ds, QD, ED, _, _, q, _⟩ => (h _ _ _ _ q).elim
  run := fun A outer s H args us vs Q E _ _ _ _ ⟨F, O, ds, QD, ED, _, _, q, _⟩ => (h _ _ _ _ q).elim
/-- the law's own end: True, whatever else -/
def spLaw : DSp := fun ds O Q _ => ∃ (ns : List Int), ds = [.slst (ns.map DV.int)] ∧ ns.length ≤ 63 ∧ O = (fun _ => none) ∧ ∀ O', Q (.bl true) O'
theorem law_sp {K : PySem.W.Frag} {H : Hp} {a : Addr} {ns : List Int} (hl : ns.length ≤ 63) (h : SqL K H a (ns.map V.int)) : liftSp K spLaw [.ref a] H (fun v _ => v = .bl true) fun _ _ _ => False := by
  refine ⟨H, fun _ => none, [.slst (ns.map DV.int)], fun d _ => d = .bl true, X0, ⟨fun _ _ e => .inl e, fun _ _ e => nomatch e⟩, .cons (.slst h (Reps.of_ints ns)) .nil, ⟨ns, rfl, hl, rfl, fun _ => rfl⟩, ?_, x0_fin⟩
  rintro d O' rfl v H' F' _ _ r
  cases r; rfl
theorem walk {l : PySem.W.OpenLaw} {q : Program} {loose : List Str} {XP : (Str → Option Value) → Heap → Prop} {YP : World → Heap → Prop} {d : DefRec} {K : Params → PySem.W.Frag} {k : Nat} (hk : k ≤ 200) (hn : l.most = some 63) (hdf : d.params.defaults = [])
    (hY : ∀ (w : World) (h : Heap), YP w h → (K w.params).In h)
    (F : ∀ (w : World) (mg : Str → Option Value) (fa : Addr) (h : Heap), (K w.params).In h → h.Ns mainGlobals mg → mg d.name = some (.ref fa) →
      ∃ fd : FuncData, (∀ (s : Shared) (u : Value), BindsTo s fd ⟨[u], []⟩ [("_law_script", u)]) ∧ ∀ base : Heap, (K w.params).In base → base.Ns mainGlobals mg → FnOk l.prog w (K w.params) mg base CX0 k fa fd ["_law_script"] (liftSp (K w.params) spLaw)) :
    PySem.W.WalkO q loose XP YP l.row.toRowW d [] (fun f vs => PySem.call f vs) :=
  L2.walk_of (n := 63) (k := k) (x := "_law_script") (CX := fun _ => CX0) (sp := fun w => liftSp (K w.params) spLaw) hn (by decide) hdf (Room.mono (k := 200) ⟨rfl, by decide, by decide⟩ hk) hY F (fun _ _ a ns hl _ hS => law_sp hl hS) fun _ _ _ _ _ z => z
end
end DL
namespace DL
open PySem PySem.Spec PyProof.Rows L2 TL
/-- a statement, the rest put aside -/
theorem seq_r {t u : DTS} {D : DEnds} {S : DSt} {O : Own} (h : ∀ R : DSt → Own → Prop, R = u D → t { D with nx := R } S O) : dSeq t u D S O := h _ rfl
end DL

set_option Elab.async false
set_option linter.all false
set_option maxRecDepth 100000
/-! DDict: dicts over data; text * int; two clauses. -/
namespace DL
open PySem PySem.Spec PyProof.Rows L2 TL
variable {XW : DXK}

section
variable {κ : Type} [DecidableEq κ]
def dget (es : List (κ × DV)) (k : κ) : Option DV := (es.find? fun kv => decide (kv.1 = k)).map (·.2)
def dput (es : List (κ × DV)) (k : κ) (v : DV) : List (κ × DV) :=
  if (es.any fun kv => decide (kv.1 = k)) = true then es.map (fun kv => if kv.1 = k then (kv.1, v) else kv) else es ++ [(k, v)]
def dmerge (es more : List (κ × DV)) : List (κ × DV) := more.foldl (fun acc kv => dput acc kv.1 kv.2) es
end
section
variable {K : KG} {F : Hp}
theorem RepK.get : ∀ {kvs : List (Key × V)} {es : List (Key × DV)} {k : Key}, RepK K F kvs es → (∀ d, dget es k = some d → ∃ v, valV kvs k = some v ∧ Rep K F v d) ∧ (dget es k = none → valV kvs k = none)
  | _, _, k, .nil => ⟨fun d h => (by cases h), fun _ => rfl⟩
  | _, _, k, .cons (k := k') (v := v) (d := d) r q => by
    obtain ⟨h1, h2⟩ := RepK.get (k := k) q
    by_cases e : k' = k
    · refine ⟨fun d' h => ⟨v, valV_pos e, ?_⟩, fun h => ?_⟩
      · simp [dget, List.find?_cons, e] at h
        subst h; exact r
      · simp [dget, List.find?_cons, e] at h
    · have ed : ∀ r', dget ((k', d) :: r') k = dget r' k := fun r' => by simp [dget, List.find?_cons, e]
      refine ⟨fun d' h => ?_, fun h => ?_⟩
      · rw [ed] at h; rw [valV_neg e]; exact h1 d' h
      · rw [ed] at h; rw [valV_neg e]; exact h2 h
theorem RepT.get : ∀ {kvs : List (List Key × V)} {es : List (List Key × DV)} {k : List Key}, RepT K F kvs es → (∀ d, dget es k = some d → ∃ v, valV kvs k = some v ∧ Rep K F v d) ∧ (dget es k = none → valV kvs k = none)
  | _, _, k, .nil => ⟨fun d h => (by cases h), fun _ => rfl⟩
  | _, _, k, .cons (k := k') (v := v) (d := d) r q => by
    obtain ⟨h1, h2⟩ := RepT.get (k := k) q
    by_cases e : k' = k
    · refine ⟨fun d' h => ⟨v, valV_pos e, ?_⟩, fun h => ?_⟩
      · simp [dget, List.find?_cons, e] at h
        subst h; exact r
      · simp [dget, List.find?_cons, e] at h
    · have ed : ∀ r', dget ((k', d) :: r') k = dget r' k := fun r' => by simp [dget, List.find?_cons, e]
      refine ⟨fun d' h => ?_, fun h => ?_⟩
      · rw [ed] at h; rw [valV_neg e]; exact h1 d' h
      · rw [ed] at h; rw [valV_neg e]; exact h2 h
theorem RepK.any (k : Key) : ∀ {kvs : List (Key × V)} {es : List (Key × DV)}, RepK K F kvs es → (kvs.any fun kv => decide (kv.1 = k)) = (es.any fun kv => decide (kv.1 = k))
  | _, _, .nil => rfl
  | _, _, .cons r q => by rw [List.any_cons, List.any_cons, RepK.any k q]
theorem RepT.any (k : List Key) : ∀ {kvs : List (List Key × V)} {es : List (List Key × DV)}, RepT K F kvs es → (kvs.any fun kv => decide (kv.1 = k)) = (es.any fun kv => decide (kv.1 = k))
  | _, _, .nil => rfl
  | _, _, .cons r q => by rw [List.any_cons, List.any_cons, RepT.any k q]
theorem RepK.append : ∀ {a b : List (Key × V)} {c d : List (Key × DV)}, RepK K F a c → RepK K F b d → RepK K F (a ++ b) (c ++ d)
  | _, _, _, _, .nil, q => q
  | _, _, _, _, .cons r p, q => .cons r (RepK.append p q)
theorem RepT.append : ∀ {a b : List (List Key × V)} {c d : List (List Key × DV)}, RepT K F a c → RepT K F b d → RepT K F (a ++ b) (c ++ d)
  | _, _, _, _, .nil, q => q
  | _, _, _, _, .cons r p, q => .cons r (RepT.append p q)
theorem RepK.mapPut {k : Key} {v : V} {d : DV} (r : Rep K F v d) : ∀ {kvs : List (Key × V)} {es : List (Key × DV)}, RepK K F kvs es → RepK K F (kvs.map fun kv => if kv.1 = k then (kv.1, v) else kv) (es.map fun kv => if kv.1 = k then (kv.1, d) else kv)
  | _, _, .nil => .nil
  | _, _, .cons (k := k') p q => by
    rw [List.map_cons, List.map_cons]
    by_cases e : k' = k
    · simp only [e, if_true]; exact .cons r (RepK.mapPut r q)
    · simp only [e, if_false]; exact .cons p (RepK.mapPut r q)
theorem RepT.mapPut {k : List Key} {v : V} {d : DV} (r : Rep K F v d) : ∀ {kvs : List (List Key × V)} {es : List (List Key × DV)}, RepT K F kvs es → RepT K F (kvs.map fun kv => if kv.1 = k then (kv.1, v) else kv) (es.map fun kv => if kv.1 = k then (kv.1, d) else kv)
  | _, _, .nil => .nil
  | _, _, .cons (k := k') p q => by
    rw [List.map_cons, List.map_cons]
    by_cases e : k' = k
    · simp only [e, if_true]; exact .cons r (RepT.mapPut r q)
    · simp only [e, if_false]; exact .cons p (RepT.mapPut r q)
theorem RepK.put {k : Key} {v : V} {d : DV} {kvs : List (Key × V)} {es : List (Key × DV)} (q : RepK K F kvs es) (r : Rep K F v d) : RepK K F (putK kvs k v) (dput es k d) := by
  unfold putK dput
  rw [q.any k]
  split
  · exact q.mapPut r
  · exact q.append (.cons r .nil)
theorem RepT.put {k : List Key} {v : V} {d : DV} {kvs : List (List Key × V)} {es : List (List Key × DV)} (q : RepT K F kvs es) (r : Rep K F v d) : RepT K F (putK kvs k v) (dput es k d) := by
  unfold putK dput
  rw [q.any k]
  split
  · exact q.mapPut r
  · exact q.append (.cons r .nil)
theorem RepK.len : ∀ {kvs : List (Key × V)} {es : List (Key × DV)}, RepK K F kvs es → kvs.length = es.length
  | _, _, .nil => rfl
  | _, _, .cons _ q => by simp [RepK.len q]
theorem RepT.len : ∀ {kvs : List (List Key × V)} {es : List (List Key × DV)}, RepT K F kvs es → kvs.length = es.length
  | _, _, .nil => rfl
  | _, _, .cons _ q => by simp [RepT.len q]
theorem RepK.merge : ∀ {more : List (Key × V)} {em : List (Key × DV)} {kvs : List (Key × V)} {es : List (Key × DV)}, RepK K F more em → RepK K F kvs es → RepK K F (mergeK kvs more) (dmerge es em)
  | _, _, _, _, .nil, q => q
  | _, _, kvs, es, .cons (k := k) (v := v) (d := d) (vs := vs) (ds := ds) r p, q => by
    show RepK K F (mergeK (putK kvs k v) vs) (dmerge (dput es k d) ds)
    exact RepK.merge p (q.put r)
end

def dkOf (O : Own) : DV → Option (List (Key × DV))
  | .dK es => some es
  | .ref a => match O a with
    | some (.dK es) => some es
    | _ => none
  | _ => none
def dtOf (O : Own) : DV → Option (List (List Key × DV))
  | .dT es => some es
  | .ref a => match O a with
    | some (.dT es) => some es
    | _ => none
  | _ => none
theorem dkOf_at {K : KG} {F H : Hp} {O : Own} {v : V} {d : DV} {es : List (Key × DV)} (rs : RS K F O H) (r : Rep K F v d) (h : dkOf O d = some es) : ∃ a kvs, v = .ref a ∧ Rd H a (.dK kvs) ∧ RepK K F kvs es := by
  cases r with
  | dK e r =>
    cases h
    rcases rs.fro _ _ e with e | ⟨_, ob, e⟩
    · exact ⟨_, _, rfl, .inl e, r⟩
    · exact ⟨_, _, rfl, .inr ⟨ob, e⟩, r⟩
  | ref a =>
    simp only [dkOf] at h
    split at h
    · rename_i ys e
      cases h
      obtain ⟨_, vs, h1, h2⟩ := rs.own a _ e
      exact ⟨a, vs, rfl, .inl h1, h2⟩
    · cases h
  | _ => cases h
theorem dtOf_at {K : KG} {F H : Hp} {O : Own} {v : V} {d : DV} {es : List (List Key × DV)} (rs : RS K F O H) (r : Rep K F v d) (h : dtOf O d = some es) : ∃ a kvs, v = .ref a ∧ Rd H a (.dT kvs) ∧ RepT K F kvs es := by
  cases r with
  | dT e r =>
    cases h
    rcases rs.fro _ _ e with e | ⟨_, ob, e⟩
    · exact ⟨_, _, rfl, .inl e, r⟩
    · exact ⟨_, _, rfl, .inr ⟨ob, e⟩, r⟩
  | ref a =>
    simp only [dtOf] at h
    split at h
    · rename_i ys e
      cases h
      obtain ⟨_, vs, h1, h2⟩ := rs.own a _ e
      exact ⟨a, vs, rfl, .inl h1, h2⟩
    · cases h
  | _ => cases h
def keyD : DV → Option Key
  | .str x => some (.inr x)
  | .int i => some (.inl i)
  | _ => none
def keysD : List DV → Option (List Key)
  | [] => some []
  | d :: r => match keyD d, keysD r with
    | some k, some ks => some (k :: ks)
    | _, _ => none
def keyTD : DV → Option (List Key)
  | .tup ds => keysD ds
  | _ => none
theorem keyD_at {K : KG} {F : Hp} {v : V} {d : DV} {k : Key} (r : Rep K F v d) (h : keyD d = some k) : v = kV k := by
  cases r <;> cases h <;> rfl
theorem keysD_at {K : KG} {F : Hp} : ∀ {vs : List V} {ds : List DV} {ks : List Key}, Reps K F vs ds → keysD ds = some ks → vs = ks.map kV
  | _, _, _, .nil, h => by cases h; rfl
  | _, _, _, .cons r q, h => by
    unfold keysD at h
    split at h
    · rename_i k ks e1 e2; cases h
      rw [keyD_at r e1, keysD_at q e2]; rfl
    · cases h
theorem keyTD_at {K : KG} {F H : Hp} {O : Own} {v : V} {d : DV} {ks : List Key} (rs : RS K F O H) (r : Rep K F v d) (h : keyTD d = some ks) : ∃ b, v = .ref b ∧ H b = some (.tup (ks.map kV)) := by
  cases r with
  | tup e r =>
    have := keysD_at r h
    subst this
    exact ⟨_, rfl, rs.tup e⟩
  | _ => cases h
/-- what a dict holds at a key -/
def dfind (O : Own) (x y : DV) : Option (Option DV) :=
  match keyD y with
  | some k => match dkOf O x with
    | some es => some (dget es k)
    | none => none
  | none => match keyTD y with
    | some k => match dtOf O x with
      | some es => some (dget es k)
      | none => none
    | none => none
theorem dfind_at {K : KG} {F H : Hp} {O : Own} {u v : V} {x y : DV} {r : Option DV} (rs : RS K F O H) (rx : Rep K F u x) (ry : Rep K F v y) (h : dfind O x y = some r) :
    ∃ a o, u = .ref a ∧ DGet H a v o ∧ (∀ d, r = some d → ∃ w, o = some w ∧ Rep K F w d) ∧ (r = none → o = none) := by
  unfold dfind at h
  split at h
  · rename_i k e
    split at h
    · rename_i es e2
      cases h
      obtain ⟨a, kvs, rfl, h1, r1⟩ := dkOf_at rs rx e2
      have := keyD_at ry e
      subst this
      exact ⟨a, valV kvs k, rfl, .inl ⟨kvs, k, h1, rfl, rfl⟩, (r1.get (k := k)).1, (r1.get (k := k)).2⟩
    · cases h
  · split at h
    · rename_i k e
      split at h
      · rename_i es e2
        cases h
        obtain ⟨a, kvs, rfl, h1, r1⟩ := dtOf_at rs rx e2
        obtain ⟨b, rfl, h2⟩ := keyTD_at rs ry e
        exact ⟨a, valV kvs k, rfl, .inr ⟨kvs, k, b, h1, rfl, h2, rfl⟩, (r1.get (k := k)).1, (r1.get (k := k)).2⟩
      · cases h
    · cases h
def onK : Option Cell → (List (Key × DV) → Prop) → Prop
  | some (.dK es), K => K es
  | _, _ => False
def onT : Option Cell → (List (List Key × DV) → Prop) → Prop
  | some (.dT es), K => K es
  | _, _ => False
def dkQ (O : Own) : DV → (List (Key × DV) → Prop) → Prop
  | .dK es, K => K es
  | .ref a, K => onK (O a) K
  | _, _ => False
def dtQ (O : Own) : DV → (List (List Key × DV) → Prop) → Prop
  | .dT es, K => K es
  | .ref a, K => onT (O a) K
  | _, _ => False
theorem onK_ex {c : Option Cell} {K : List (Key × DV) → Prop} (h : onK c K) : ∃ es, c = some (.dK es) ∧ K es := by
  unfold onK at h
  split at h
  · exact ⟨_, rfl, h⟩
  · exact h.elim
theorem onT_ex {c : Option Cell} {K : List (List Key × DV) → Prop} (h : onT c K) : ∃ es, c = some (.dT es) ∧ K es := by
  unfold onT at h
  split at h
  · exact ⟨_, rfl, h⟩
  · exact h.elim
theorem dkQ_ex {O : Own} {d : DV} {K : List (Key × DV) → Prop} (h : dkQ O d K) : ∃ es, dkOf O d = some es ∧ K es := by
  unfold dkQ at h
  split at h
  · exact ⟨_, rfl, h⟩
  · rename_i a
    obtain ⟨xs, e, h⟩ := onK_ex h
    exact ⟨xs, by simp [dkOf, e], h⟩
  · exact h.elim
theorem dtQ_ex {O : Own} {d : DV} {K : List (List Key × DV) → Prop} (h : dtQ O d K) : ∃ es, dtOf O d = some es ∧ K es := by
  unfold dtQ at h
  split at h
  · exact ⟨_, rfl, h⟩
  · rename_i a
    obtain ⟨xs, e, h⟩ := onT_ex h
    exact ⟨xs, by simp [dtOf, e], h⟩
  · exact h.elim
/-- what a dict x holds at the key y -/
def findQ (O : Own) (x : DV) : DV → (Option DV → Prop) → Prop
  | .str z, K => dkQ O x fun es => K (dget es (.inr z))
  | .int i, K => dkQ O x fun es => K (dget es (.inl i))
  | .tup ds, K => onSome (keysD ds) fun k => dtQ O x fun es => K (dget es k)
  | _, _ => False
theorem findQ_ex {O : Own} {x y : DV} {K : Option DV → Prop} (h : findQ O x y K) : ∃ r, dfind O x y = some r ∧ K r := by
  unfold findQ at h
  split at h
  · obtain ⟨es, e, h⟩ := dkQ_ex h
    exact ⟨_, by simp [dfind, keyD, e], h⟩
  · obtain ⟨es, e, h⟩ := dkQ_ex h
    exact ⟨_, by simp [dfind, keyD, e], h⟩
  · obtain ⟨k, e0, h⟩ := onSome_ex h
    obtain ⟨es, e, h⟩ := dtQ_ex h
    exact ⟨_, by simp [dfind, keyD, keyTD, e, e0], h⟩
  · exact h.elim
def dDix : DR2 := fun x y O Q => findQ O x y fun r => onSome r fun d => Q d O
def dDin (neg : Bool) : DR2 := fun y x O Q => findQ O x y fun r => Q (.bl (if neg then !r.isSome else r.isSome)) O
section
variable {X : Cx} {a b : Expr} {ta tb : DTE} {pos : Pos}
theorem de_dix (hu : X.A.units + 1 < cLine) (ha : DE XW X a ta) (hb : DE XW X b tb) (hs : NoSl b := by exact fun _ _ => rfl) : DE XW X (.Subscript a b pos) (dOp dDix ta tb) := by
  refine ⟨fun g0 hg0 => PE_imp (pe_dget hu (ha.pe g0 hg0) (hb.pe g0 hg0) hs) ?_⟩
  rintro σ H VQ ⟨F, O, S, Q, rs, sr, h, fin⟩
  refine ⟨F, O, S, _, rs, sr, h, fun dx O1 h1 x H1 F1 s1 rx => ⟨F1, O1, S, _, s1.rs, sr.mono s1.sub, h1, fun dy O2 h2 y H2 F2 s2 ry => ?_⟩⟩
  obtain ⟨r, e, h2⟩ := findQ_ex h2
  obtain ⟨d, rfl, h2⟩ := onSome_ex h2
  obtain ⟨p, o, rfl, h3, h4, _⟩ := dfind_at s2.rs (rx.mono s2.sub) ry e
  obtain ⟨w', rfl, r⟩ := h4 d rfl
  exact ⟨p, w', rfl, h3, fin _ _ h2 _ H2 F2 (s1.trans s2) r⟩
theorem od_din_ {X : Cx} {f : Value → Value → Sem Value} (neg : Bool) (h : OpR X f (fun y x H Q => ∃ a o, x = .ref a ∧ DGet H a y o ∧ Q (.bl (if neg then !o.isSome else o.isSome)) H)) : OpD X f (dDin neg) := by
  refine ⟨fun g0 => OpR_imp h ?_⟩
  rintro y x H VQ ⟨F, O, dy, dx, Q, rs, ry, rx, h, fin⟩
  obtain ⟨r, e, h⟩ := findQ_ex h
  obtain ⟨p, o, rfl, h3, h4, h5⟩ := dfind_at rs rx ry e
  have : o.isSome = r.isSome := by
    cases r with
    | none => rw [h5 rfl]; rfl
    | some d => obtain ⟨w', rfl, _⟩ := h4 d rfl; rfl
  exact ⟨p, o, rfl, h3, by rw [this]; exact fin _ _ h _ _ F (.refl rs) (.bl _)⟩
theorem od_din (hu : X.A.units + 1 < cLine) : OpD X (compareOp .In) (dDin false) := od_din_ false fun pins s σ H y x v u Q I ry rx ⟨a, o, e, g, q⟩ => by
  subst e
  obtain rfl : u = Value.ref a := rx
  exact d_in hu I g ry fun s3 I3 => ⟨.bl o.isSome, H, I3, rfl, by simpa using q⟩
theorem od_dnin (hu : X.A.units + 1 < cLine) : OpD X (compareOp .NotIn) (dDin true) := od_din_ true fun pins s σ H y x v u Q I ry rx ⟨a, o, e, g, q⟩ => by
  subst e
  obtain rfl : u = Value.ref a := rx
  exact d_notIn hu I g ry fun s3 I3 => ⟨.bl (!o.isSome), H, I3, rfl, by simpa using q⟩
/-- d[k] = v of an owned dict -/
def dSetD : DV → DV → DV → Own → (Own → Prop) → Prop
  | .ref a, .str z, v, O, Q => onK (O a) fun es => es.length < 16000000 ∧ Q (oset O a (.dK (dput es (.inr z) v)))
  | .ref a, .int z, v, O, Q => onK (O a) fun es => es.length < 16000000 ∧ Q (oset O a (.dK (dput es (.inl z) v)))
  | .ref a, .tup ds, v, O, Q => onT (O a) fun es => onSome (keysD ds) fun k => es.length < 16000000 ∧ Q (oset O a (.dT (dput es k v)))
  | _, _, _, _, _ => False
theorem psd_dict (hu : X.A.units + 1 < cLine) : PSetD X dSetD := by
  refine ⟨fun g0 pins s σ H o i v ov iv u VQ I ro ri rv ⟨F, O, d, e, f, Q, rs, rdo, rdi, rdv, h, fin⟩ => ?_⟩
  have key : ∀ (a : Addr) (H' : Hp) (F' : Hp) (O' : Own), o = .ref a → DPut H a i v H' → VQ H' → wpAny (model X.prog X.w) X.A (setItem ov iv u) (fun _ s' => ∃ H', Inv X pins σ H' s' ∧ VQ H') X.xe s := by
    intro a H' F' O' ea g q
    subst ea
    obtain rfl : ov = Value.ref a := ro
    exact d_setItem hu I g ri rv fun s' I' => ⟨H', I', q⟩
  have fk : ∀ {a : Addr} {k : Key}, d = .ref a → keyD e = some k → (onK (O a) fun es => es.length < 16000000 ∧ Q (oset O a (.dK (dput es k f)))) → wpAny (model X.prog X.w) X.A (setItem ov iv u) (fun _ s' => ∃ H', Inv X pins σ H' s' ∧ VQ H') X.xe s := by
    rintro a k rfl e2 h
    cases rdo
    obtain ⟨es, e1, h⟩ := onK_ex h
    obtain ⟨_, kvs, h1, r1⟩ := rs.own a _ e1
    have := keyD_at rdi e2
    subst this
    exact key a _ F O rfl (.k h1 (by rw [r1.len]; exact lc_line h.1)) (fin _ h.2 _ F (rs.write e1 ⟨_, upd_same, r1.put rdv⟩))
  unfold dSetD at h
  split at h
  · exact fk rfl rfl h
  · exact fk rfl rfl h
  · rename_i a ds
    cases rdo
    obtain ⟨es, e1, h⟩ := onT_ex h
    obtain ⟨k, e2, h⟩ := onSome_ex h
    obtain ⟨_, kvs, h1, r1⟩ := rs.own a _ e1
    obtain ⟨b, rfl, h2⟩ := keyTD_at rs rdi e2
    exact key a _ F O rfl (.t h1 h2 (by rw [r1.len]; exact lc_line h.1)) (fin _ h.2 _ F (rs.write e1 ⟨_, upd_same, r1.put rdv⟩))
  · exact h.elim
end

/-! ### displays -/
def dPairs : List (DTE × DTE) → DSt → Own → (List (DV × DV) → Own → Prop) → Prop
  | [], _, O, Q => Q [] O
  | (tk, tv) :: r, S, O, Q => tk S O fun x O1 => tv S O1 fun y O2 => dPairs r S O2 fun ps O3 => Q ((x, y) :: ps) O3
def RepVV (K : KG) (F : Hp) : List (V × V) → List (DV × DV) → Prop := Paired fun p q => Rep K F p.1 q.1 ∧ Rep K F p.2 q.2
theorem RepVV.mono {K : KG} {F F' : Hp} (s : Sub F F') : ∀ {x : List (V × V)} {y : List (DV × DV)}, RepVV K F x y → RepVV K F' x y
  | _, _, .nil => .nil
  | _, _, .cons h r => .cons ⟨h.1.mono s, h.2.mono s⟩ (RepVV.mono s r)
theorem liftPairs {K : KG} : ∀ {trs : List (DTE × DTE)} {σ : L2.St} {H F : Hp} {O : Own} {S : DSt} {Q : List (DV × DV) → Own → Prop} {VQ : List (V × V) → Hp → Prop}, RS K F O H → SR K F σ S → dPairs trs S O Q →
    (∀ ps O', Q ps O' → ∀ vs H' F', Stp K F O H F' O' H' → RepVV K F' vs ps → VQ vs H') → tPairs (trs.map fun p => (liftE K p.1, liftE K p.2)) σ H VQ
  | [], σ, H, F, O, S, Q, VQ, rs, sr, h, fin => fin _ _ h _ H F (.refl rs) .nil
  | (tk, tv) :: r, σ, H, F, O, S, Q, VQ, rs, sr, h, fin =>
    ⟨F, O, S, _, rs, sr, h, fun x O1 h1 u H1 F1 s1 r1 => ⟨F1, O1, S, _, s1.rs, sr.mono s1.sub, h1, fun y O2 h2 w H2 F2 s2 r2 =>
      liftPairs s2.rs (sr.mono (s1.trans s2).sub) h2 fun ps O3 h3 vs H3 F3 s3 r3 => fin _ _ h3 _ H3 F3 (s1.trans (s2.trans s3)) (.cons ⟨r1.mono (s2.trans s3).sub, r2.mono s3.sub⟩ r3)⟩⟩
structure DPPs (XW : DXK) (X : Cx) (pos : Pos) (keys : List (Option Expr)) (values : List Expr) (trs : List (DTE × DTE)) : Prop where
  pps : ∀ g, Good XW X g → PPs X pos keys values (trs.map fun p => (liftE (kg X g) p.1, liftE (kg X g) p.2))
def kvsOf : List (DV × DV) → Option (List (Key × DV))
  | [] => some []
  | (k, v) :: r => match keyD k, kvsOf r with
    | some k', some r' => some ((k', v) :: r')
    | _, _ => none
theorem kvsOf_at {K : KG} {F : Hp} : ∀ {vs : List (V × V)} {ps : List (DV × DV)} {es : List (Key × DV)}, RepVV K F vs ps → kvsOf ps = some es → ∃ kvs, vs = kvs.map (fun kv => (kV kv.1, kv.2)) ∧ RepK K F kvs es
  | _, _, _, .nil, h => by cases h; exact ⟨[], rfl, .nil⟩
  | _, _, _, .cons (a := (p1, p2)) (b := (a, b)) r q, h => by
    unfold kvsOf at h
    split at h
    · rename_i k' r' e1 e2
      cases h
      obtain ⟨kvs, h1, h2⟩ := kvsOf_at q e2
      have := keyD_at r.1 e1
      subst h1
      have this : p1 = kV k' := this
      subst this
      exact ⟨(k', p2) :: kvs, rfl, .cons r.2 h2⟩
    · cases h
/-- {k: v, ..}, owned -/
def dDisp (trs : List (DTE × DTE)) (S : DSt) (O : Own) (Q : DVK) : Prop := dPairs trs S O fun ps O1 => onSome (kvsOf ps) fun es => es.length ≤ 15 ∧ ∀ p, O1 p = none → Q (.ref p) (oset O1 p (.dK (dmerge [] es)))
section
variable {X : Cx} {pos : Pos}
theorem dpp_nil : DPPs XW X pos [] [] [] := ⟨fun g0 hg0 => pps_nil⟩
theorem dpp_cons {k v : Expr} {ks : List (Option Expr)} {vs : List Expr} {tk tv : DTE} {trs : List (DTE × DTE)} (hk : DE XW X k tk) (hv : DE XW X v tv) (hr : DPPs XW X pos ks vs trs) : DPPs XW X pos (some k :: ks) (v :: vs) ((tk, tv) :: trs) := ⟨fun g0 hg0 => pps_cons (hk.pe g0 hg0) (hv.pe g0 hg0) (hr.pps g0 hg0)⟩
theorem de_disp {keys : List (Option Expr)} {values : List Expr} {trs : List (DTE × DTE)} (h : DPPs XW X pos keys values trs) (hall : keys.all (·.isSome) = true := by rfl) (hl : keys.length = values.length := by rfl) (h0 : keys ≠ [] := by exact fun z => nomatch z)
    (h15 : keys.length ≤ 15 := by decide) : DE XW X (.Dict keys values pos) (dDisp trs) := by
  refine ⟨fun g0 hg0 => PE_imp (pe_disp (h.pps g0 hg0) hall hl h0 h15) ?_⟩
  rintro σ H VQ ⟨F, O, S, Q, rs, sr, h, fin⟩ p hp
  obtain ⟨hf, ho⟩ := rs.free hp
  have s0 := (Stp.refl rs).side rs hp hf ho (.dK [])
  refine liftPairs s0.rs sr h fun ps O1 h1 vs H1 F1 s1 r1 => ?_
  obtain ⟨es, e, h1⟩ := onSome_ex h1
  · obtain ⟨kvs, h2, r2⟩ := kvsOf_at r1 e
    obtain ⟨k1, k2⟩ := s1.keep p _ upd_same ho
    have k3 := s1.nof p _ upd_same ho hf
    refine ⟨k1, kvs, h2, by rw [r2.len]; exact h1.1, fin _ _ (h1.2 p k2) _ _ F1 (Stp.mk' rs s1.sub ⟨fun b u e => ?_, fun b c e => ?_⟩ (fun b u q1 q2 => ?_) (fun b u q1 q2 q3 => ?_)) (.ref p)⟩
    · have hb : b ≠ p := fun z => by subst z; rw [k3] at e; cases e
      rw [upd_ne hb]; exact s1.rs.fro b u e
    · by_cases hb : b = p
      · subst hb; rw [oset_same] at e; cases e
        exact ⟨k3, _, upd_same, RepK.merge r2 .nil⟩
      · rw [oset_ne hb] at e
        obtain ⟨h3, h4⟩ := s1.rs.own b c e
        exact ⟨h3, h4.mono (Sub.refl _) (upd_ne hb)⟩
    · have hb : b ≠ p := fun z => by subst z; rw [hp] at q1; cases q1
      obtain ⟨z1, z2⟩ := s1.keep b u (by rw [upd_ne hb]; exact q1) q2
      exact ⟨by rw [upd_ne hb]; exact z1, by rw [oset_ne hb]; exact z2⟩
    · have hb : b ≠ p := fun z => by subst z; rw [hp] at q1; cases q1
      exact s1.nof b u (by rw [upd_ne hb]; exact q1) q2 q3
def dDNew (c : Cell) (u0_ : DSt) (O : Own) (Q : DVK) : Prop := ∀ p, O p = none → Q (.ref p) (oset O p c)
theorem de_dnewK : DE XW X (.Dict [] [] pos) (dDNew (.dK [])) := by
  refine ⟨fun g0 hg0 => PE_imp pe_dnewK ?_⟩
  rintro σ H VQ ⟨F, O, S, Q, rs, sr, h, fin⟩ p hp
  exact fin _ _ (h p (rs.free hp).2) _ _ F (rs.newO hp ⟨_, upd_same, .nil⟩) (.ref p)
theorem de_dnewT : DE XW X (.Dict [] [] pos) (dDNew (.dT [])) := by
  refine ⟨fun g0 hg0 => PE_imp pe_dnewT ?_⟩
  rintro σ H VQ ⟨F, O, S, Q, rs, sr, h, fin⟩ p hp
  exact fin _ _ (h p (rs.free hp).2) _ _ F (rs.newO hp ⟨_, upd_same, .nil⟩) (.ref p)
end

/-! ### d.update(e) -/
def rUpd : V → List V → Hp → VK → Prop := fun x xs H Q => ∃ a b kvs more, x = .ref a ∧ xs = [.ref b] ∧ a ≠ b ∧ H a = some (.dK kvs) ∧ Rd H b (.dK more) ∧ kvs.length + more.length ≤ sizeLine ∧ Q .non (upd H a (.dK (mergeK kvs more)))
theorem mt_update {X : Cx} : MtR X "dict.update" rUpd := by
  intro pins s σ H x xs v us Q I rx rxs h
  obtain ⟨a, b, kvs, more, rfl, rfl, hab, ha, hb, hz, q⟩ := h
  obtain rfl : v = Value.ref a := rx
  obtain ⟨u, rfl, ru⟩ := rxs.one
  obtain rfl : u = Value.ref b := ru
  obtain ⟨z, hd, vs, rel, dd⟩ := dk_of I.hok ha
  obtain ⟨z2, hd2, vs2, rel2, dd2⟩ := dk_rd I.hok hb
  refine call_meetsIn PySem.F.slot_dict_update dd.typeIs PySem.F.entry_dict_update (PySem.F.args_dict_update_2 _ _) (meets_dict_update (mixKind X.prog X.w) a b hab hd2) ⟨vs, vs2, dd, dd2, by rw [← rel.length, ← rel2.length]; exact hz, fun h' dd' _ hs => ?_⟩
  have he : ∃ q, h'.get? a = some q := let ⟨q, _, _, hq, _⟩ := dd'; ⟨q, hq⟩
  have hz' : (mergeK kvs more).length ≤ sizeLine := Nat.le_trans (length_mergeK more kvs) hz
  exact ⟨.non, _, d_write (t' := s.toks) I (by rw [ha]; exact True.intro) hs he (dk_new hz' hd (KV.merge rel2 rel) dd'), rfl, q⟩
def apart (a : Addr) : DV → Prop
  | .ref b => a ≠ b
  | _ => True
def dUpd : DV → List DV → Own → DVK → Prop
  | .ref a, [d], O, Q => onK (O a) fun es => dkQ O d fun em => apart a d ∧ es.length + em.length ≤ 1000000 ∧ Q .non (oset O a (.dK (dmerge es em)))
  | _, _, _, _ => False
theorem md_update {X : Cx} (_ : X.A.units + 1 < cLine) : MtD X "dict.update" dUpd := by
  refine ⟨fun g0 => MtR_imp mt_update ?_⟩
  rintro x xs H VQ ⟨F, O, d, ds, Q, rs, rx, rr, h, fin⟩
  unfold dUpd at h
  split at h
  · rename_i a y
    cases rx
    obtain ⟨v, rfl, ry⟩ := rr.one
    obtain ⟨es, e1, h⟩ := onK_ex h
    obtain ⟨em, e2, h⟩ := dkQ_ex h
    · obtain ⟨hf, kvs, h1, r1⟩ := rs.own a _ e1
      obtain ⟨b, more, rfl, h2, r2⟩ := dkOf_at rs ry e2
      refine ⟨a, b, kvs, more, rfl, rfl, ?_, h1, h2, ?_, fin _ _ h.2.2 _ _ F (rs.write e1 ⟨_, upd_same, RepK.merge r2 r1⟩) .non⟩
      · cases ry with
        | ref b => exact h.1
        | dK e _ => intro z; subst z; rw [hf] at e; cases e
        | _ => cases e2
      · rw [r1.len, r2.len]
        have := sizeLine_eq
        have := h.2.1
        omega
  · exact h.elim

/-! ### text * int -/
def repS (x : Str) (n : Int) : Str := ⟨(List.replicate n.toNat (tl x)).flatten.toArray⟩
theorem mul_repS (x : Str) (n : Int) : Txt.mul x n = repS x n := by
  apply ext_tl
  unfold Txt.mul repS
  by_cases h1 : n < 1
  · rw [if_pos h1]
    have : n.toNat = 0 := by omega
    rw [this]; rfl
  · rw [if_neg h1]
    by_cases h2 : (n == 1 || x.length == 0) = true
    · rw [if_pos h2]
      rcases Bool.or_eq_true_iff.mp h2 with h3 | h3
      · have : n = 1 := by simpa using h3
        subst this
        simp [TL.tl]
      · have : tl x = [] := (TL.len0_tl x).mp (by simpa using h3)
        rw [this]; simp [TL.tl]
    · rw [if_neg h2]
      have key : ∀ (k : Nat) (acc : Array Nat), (List.foldl (fun x1 x2 => x1 ++ x2) acc (List.replicate k x.cps)).toList = acc.toList ++ (List.replicate k x.cps.toList).flatten := by
        intro k
        induction k with
        | zero => intro acc; simp
        | succ k ih => intro acc; rw [List.replicate_succ, List.foldl_cons, ih, List.replicate_succ, List.flatten_cons]; simp
      show (List.foldl (fun x1 x2 => x1 ++ x2) #[] (List.replicate n.toNat x.cps)).toList = _
      rw [key]; simp [TL.tl]
def dMulS : DV → DV → Own → DVK → Prop
  | .str z, .int n, O, Q => (n < 100000 ∧ -100000 < n ∧ z.length < 100) ∧ Q (.str (repS z n)) O
  | _, _, _, _ => False
theorem od_mulS {X : Cx} : OpD X (binaryOp .Mult) dMulS := by
  refine ⟨fun g0 pins s σ H x y v u VQ I rx ry h => ?_⟩
  obtain ⟨F, O, dx, dy, Q, rs, rdx, rdy, h, fin⟩ := h
  unfold dMulS at h
  split at h
  · rename_i z n
    cases rdx; cases rdy
    obtain ⟨⟨c1, c2, c3⟩, q⟩ := h
    obtain ⟨t, rfl⟩ := rx
    obtain ⟨t', rfl⟩ := ry
    refine SB.mul (n := n) ⟨?_, fun h1 _ => ?_, fun h1 _ => ?_⟩ fun t2 k => ?_
    · have h1 : ¬ n < -(2 ^ 63 : Int) := by omega
      have h2 : ¬ n ≥ 2 ^ 63 := by omega
      rw [decide_eq_false h1, decide_eq_false h2]; rfl
    · intro h3
      have h4 : (2 ^ 63 - 1) / 1000000 ≤ (2 ^ 63 - 1) / n := by
        have : (0 : Int) < n := by omega
        have h5 : n * ((2 ^ 63 - 1) / 1000000) ≤ 2 ^ 63 - 1 := by
          have : ((2 : Int) ^ 63 - 1) / 1000000 = 9223372036854 := by decide
          rw [this]; omega
        exact (Int.le_ediv_iff_mul_le this).mpr (by rw [Int.mul_comm]; exact h5)
      have h6 : ((2 : Int) ^ 63 - 1) / 1000000 = 9223372036854 := by decide
      omega
    · show Builtin.Str.tooLong _ = false
      have hb : z.length * n.toNat ≤ 99 * 100000 := Nat.mul_le_mul (by omega) (by omega)
      unfold Builtin.Str.tooLong
      simp only [decide_eq_false_iff_not]
      have := sizeLine_eq
      omega
    · rw [mul_repS]
      exact ⟨.str _, H, I.tok _, ⟨_, rfl⟩, fin _ _ q _ _ F (.refl rs) (.str _)⟩
  · exact h.elim
end DL

set_option Elab.async false
set_option linter.all false
set_option maxRecDepth 100000
/-! DTwo: a list comprehension of two clauses, over data. -/
namespace DL
open PySem PySem.Spec PyProof.Rows L2 TL
variable {XW : DXK}

def lcG (b : DV → DSt → Option DSt) (tt : DTT) (te : DTE) (S : DSt) (R : List DV → Own → Prop) : List DV → List DV → Own → Prop
  | [], acc, O => R acc O
  | x :: r, acc, O => onSome (b x S) fun S2 => tt S2 O fun c O2 => if c = true then te S2 O2 fun y O3 => acc.length < 16000000 ∧ lcG b tt te S R r (acc ++ [y]) O3 else lcG b tt te S R r acc O2
def lc2W (ow : Bool) (b : DV → DSt → Option DSt) (tt : DTT) (di1 : DTI) (b1 : DV → DSt → Option DSt) (tt1 : DTT) (te : DTE) (vs1 : List Nat) (S : DSt) (Q : DVK) : List DV → List DV → Own → Prop
  | [], acc, O => endLc ow Q acc O
  | x :: r, acc, O => onSome (b x S) fun S2 => tt S2 O fun c O2 => if c = true then di1 S2 O2 fun ds1 O3 => lcG b1 tt1 te (dwipe S2 vs1) (lc2W ow b tt di1 b1 tt1 te vs1 S Q r) ds1 acc O3 else lc2W ow b tt di1 b1 tt1 te vs1 S Q r acc O2
def dLc2 (ow : Bool) (di : DTI) (b : DV → DSt → Option DSt) (tt : DTT) (di1 : DTI) (b1 : DV → DSt → Option DSt) (tt1 : DTT) (te : DTE) (vs vs1 : List Nat) (S : DSt) (O : Own) (Q : DVK) : Prop := di S O fun ds O1 => lc2W ow b tt di1 b1 tt1 te vs1 (dwipe S vs) Q ds [] O1
theorem Stp.freezeSide {K : KG} {F H F' H' : Hp} {O O' : Own} {D : Addr} {o : HO} (r : RS K F O H) (s' : Stp K F O H F' O' H') (hD : H D = none) (hd' : H' D = some o) (hf' : F' D = none) (ho' : O' D = none) : Stp K F O H (upd F' D o) O' H' := by
  refine Stp.mk' r (s'.sub.trans (Sub.upd hf')) ⟨fun b u e => ?_, fun b c e => ?_⟩ s'.keep (fun b u h1 h2 h3 => ?_)
  · by_cases hb : b = D
    · subst hb; rw [upd_same] at e; cases e; exact .inl hd'
    · rw [upd_ne hb] at e; exact s'.rs.fro b u e
  · have hb : b ≠ D := fun z => by subst z; rw [ho'] at e; cases e
    obtain ⟨h3, h4⟩ := s'.rs.own b c e
    exact ⟨by rw [upd_ne hb]; exact h3, h4.mono (Sub.upd hf') rfl⟩
  · rw [upd_ne (fun z => by subst z; rw [hD] at h1; cases h1)]; exact s'.nof b u h1 h2 h3
theorem liftLc2 {K : KG} {ow : Bool} {di di1 : DTI} {g g1 : TG} {b b1 : DV → DSt → Option DSt} {tt tt1 : DTT} {te : DTE} {vs vs1 : List Nat} (hg : TgtOk K.f g b vs) (hg1 : TgtOk K.f g1 b1 vs1) {σ : L2.St} {H : Hp} {VQ : VK} (h : liftE K (dLc2 ow di b tt di1 b1 tt1 te vs vs1) σ H VQ) :
    tLc2 (liftI K di) g (liftT ⟨K.f, X0, L2.E0⟩ tt) (liftI ⟨K.f, X0, L2.E0⟩ di1) g1 (liftT ⟨K.f, X0, L2.E0⟩ tt1) (liftE ⟨K.f, X0, L2.E0⟩ te) vs vs1 σ H VQ := by
  obtain ⟨F, O, S, Q, rs, sr, h, fin⟩ := h
  refine ⟨F, O, S, _, rs, sr, h, fun ds O1 h1 J H1 F1 s1 y D hD => ?_⟩
  obtain ⟨hf1, ho1⟩ := s1.rs.free hD
  let Wd (R : List DV → Own → Prop) (H' : Hp) : Prop := ∃ F' O' acc vacc, Stp K F1 O1 H1 F' O' H' ∧ H' D = some (.lst vacc) ∧ F' D = none ∧ O' D = none ∧ Reps K F' vacc acc ∧ R acc O'
  refine ⟨fun i m H' => m = ds.length - i ∧ Wd (lc2W ow b tt di1 b1 tt1 te vs1 (dwipe S vs) Q (ds.drop i)) H',
    ⟨_, rfl, F1, O1, [], [], (Stp.refl s1.rs).side s1.rs hD hf1 ho1 _, upd_same, hf1, ho1, .nil, h1⟩, ?_⟩
  rintro i m H' ⟨em, F', O', acc, vacc, s', hd', hf', ho', ra, h'⟩
  obtain ⟨y1, y2⟩ := y i O' H' F' s'.sub s'.rs
  by_cases hi : i < ds.length
  · have e0 : ds[i]? = some ds[i] := List.getElem?_eq_getElem hi
    rw [List.drop_eq_getElem_cons hi] at h'
    obtain ⟨hgo, hy⟩ := y1 _ e0
    refine .inr ⟨hgo, fun H2 => Wd (lc2W ow b tt di1 b1 tt1 te vs1 (dwipe S vs) Q (ds.drop (i + 1))) H2, fun H2 q => ⟨_, ?_, rfl, q⟩, fun x H2 q => ?_⟩
    · omega
    · obtain ⟨F3, s3, r3⟩ := hy x H2 q
      unfold lc2W at h'
      obtain ⟨S2, e2, h'⟩ := onSome_ex h'
      · refine hg.ok s3.rs.z r3 (((sr.mono s1.sub).mono s'.sub).mono s3.sub |>.wipe vs) e2 fun σ2 sr2 ew => ⟨ew.trans (wipe_wipe fun _ h => h), F3, O', S2, _, s3.rs.drop, sr2, h', fun c O4 h4 H4 F4 s4' => ?_⟩
        have s4 := s4'.up s3.rs
        have st4 := s3.trans s4
        dsimp only at h4 ⊢
        split
        · rename_i e; rw [if_pos e] at h4
          refine ⟨F4, O4, S2, _, s4.rs.drop, sr2.mono s4.sub, h4, fun ds1 O5 h5 J1 H5 F5 s5' z => ?_⟩
          have s5 := s5'.up s4.rs
          have st5 := st4.trans s5
          obtain ⟨k1, k2⟩ := st5.keep D _ hd' ho'
          have k3 := st5.nof D _ hd' ho' hf'
          -- the inner loop
          refine ⟨fun j k H' => k = ds1.length - j ∧ ∃ F' O' acc vacc, Stp K F1 O1 H1 F' O' H' ∧ Sub F5 F' ∧ H' D = some (.lst vacc) ∧ F' D = none ∧ O' D = none ∧ Reps K F' vacc acc ∧ lcG b1 tt1 te (dwipe S2 vs1) (lc2W ow b tt di1 b1 tt1 te vs1 (dwipe S vs) Q (ds.drop (i + 1))) (ds1.drop j) acc O',
            ⟨_, rfl, F5, O5, acc, vacc, s'.trans st5, Sub.refl _, k1, k3, k2, ra.mono st5.sub, h5⟩, ?_⟩
          rintro j k H6 ⟨ek, F6, O6, acc6, vacc6, s6, sb6, hd6, hf6, ho6, ra6, h6⟩
          obtain ⟨z1, z2⟩ := z j O6 H6 F6 sb6 s6.rs.drop
          by_cases hj : j < ds1.length
          · have e1 : ds1[j]? = some ds1[j] := List.getElem?_eq_getElem hj
            rw [List.drop_eq_getElem_cons hj] at h6
            obtain ⟨hgo1, hy1⟩ := z1 _ e1
            refine .inr ⟨hgo1, fun H' => ∃ F' O' acc vacc, Stp K F1 O1 H1 F' O' H' ∧ Sub F5 F' ∧ H' D = some (.lst vacc) ∧ F' D = none ∧ O' D = none ∧ Reps K F' vacc acc ∧ lcG b1 tt1 te (dwipe S2 vs1) (lc2W ow b tt di1 b1 tt1 te vs1 (dwipe S vs) Q (ds.drop (i + 1))) (ds1.drop (j + 1)) acc O', fun H2 q => ⟨_, ?_, rfl, q⟩, fun x H7 q => ?_⟩
            · omega
            · obtain ⟨F7, s7', r7⟩ := hy1 x H7 q
              have s7 := s7'.up s6.rs
              unfold lcG at h6
              obtain ⟨S3, e3, h6⟩ := onSome_ex h6
              · refine hg1.ok s7.rs.z r7 ((sr2.mono s4.sub).mono (s5.sub.trans (sb6.trans s7.sub)) |>.wipe vs1) e3 fun σ3 sr3 ew3 => ⟨ew3.trans (wipe_wipe fun _ h => h), F7, O6, S3, _, s7.rs.drop, sr3, h6, fun c8 O8 h8 H8 F8 s8' => ?_⟩
                have s8 := s8'.up s7.rs
                have st8 := s7.trans s8
                dsimp only at h8 ⊢
                split
                · rename_i e; rw [if_pos e] at h8
                  refine ⟨F8, O8, S3, _, s8.rs.drop, sr3.mono s8.sub, h8, fun d O9 h9 v H9 F9 s9' r9 => ?_⟩
                  have s9 := s9'.up s8.rs
                  have st9 := st8.trans s9
                  obtain ⟨k1, k2⟩ := st9.keep D _ hd6 ho6
                  have k3 := st9.nof D _ hd6 ho6 hf6
                  exact ⟨vacc6, k1, by rw [ra6.len]; exact lc_line h9.1, F9, O9, _, _, (s6.trans st9).side s1.rs hD k3 k2 _, sb6.trans st9.sub, upd_same, k3, k2, (ra6.mono st9.sub).append (.cons r9 .nil), h9.2⟩
                · rename_i e; rw [if_neg e] at h8
                  obtain ⟨k1, k2⟩ := st8.keep D _ hd6 ho6
                  have k3 := st8.nof D _ hd6 ho6 hf6
                  exact ⟨F8, O8, acc6, vacc6, s6.trans st8, sb6.trans st8.sub, k1, k3, k2, ra6.mono st8.sub, h8⟩
          · have e9 : ds1.drop j = [] := List.drop_eq_nil_of_le (by omega)
            rw [e9] at h6
            exact .inl ⟨z2 (by omega), F6, O6, acc6, vacc6, s6, hd6, hf6, ho6, ra6, h6⟩
        · rename_i e; rw [if_neg e] at h4
          obtain ⟨k1, k2⟩ := st4.keep D _ hd' ho'
          have k3 := st4.nof D _ hd' ho' hf'
          exact ⟨F4, O4, acc, vacc, s'.trans st4, k1, k3, k2, ra.mono st4.sub, h4⟩
  · rw [List.drop_eq_nil_of_le (by omega)] at h'
    exact .inl ⟨y2 (by omega), endLc_ok s1.rs s' hD hd' hf' ho' ra h' (fin.step s1)⟩
section
variable {X : Cx}
theorem de_lc2 (ow : Bool) {elt tg iter tg1 iter1 : Expr} {ifs ifs1 : List Expr} {scope : Scope} {own : List (Str × Nat)} {vs1 : List Nat} {pos : Pos} {di di1 : DTI} {g g1 : TG} {b b1 : DV → DSt → Option DSt} {tt tt1 : DTT} {te : DTE} (hc : X.calm = true) (hN : X.N.Nodup) (hi : DI XW X tg iter di) (ok : BlkOk X.N X.env.scope scope own) (hv : ∀ i ∈ vs1, i ∈ own.map (·.2))
    (hT : TgtOk X.K g b (own.map (·.2))) (hT1 : TgtOk X.K g1 b1 vs1)
    (hg : ∀ (s : Shared) (H : Hp) (C : Addr) (cl : List (Str × Addr)) (fp : List Addr), PG (X.blk s H scope (compEnvC scope cl C X.env) fp) tg g) (ht : ∀ (s : Shared) (H : Hp) (C : Addr) (cl : List (Str × Addr)) (fp : List Addr), DTs X0 (X.blk s H scope (compEnvC scope cl C X.env) fp) ifs tt)
    (hi1 : ∀ (s : Shared) (H : Hp) (C : Addr) (cl : List (Str × Addr)) (fp : List Addr), DI X0 (X.blk s H scope (compEnvC scope cl C X.env) fp) tg1 iter1 di1)
    (hg1 : ∀ (s : Shared) (H : Hp) (C : Addr) (cl : List (Str × Addr)) (fp : List Addr), PG (X.blk s H scope (compEnvC scope cl C X.env) fp) tg1 g1) (ht1 : ∀ (s : Shared) (H : Hp) (C : Addr) (cl : List (Str × Addr)) (fp : List Addr), DTs X0 (X.blk s H scope (compEnvC scope cl C X.env) fp) ifs1 tt1)
    (he : ∀ (s : Shared) (H : Hp) (C : Addr) (cl : List (Str × Addr)) (fp : List Addr), DE X0 (X.blk s H scope (compEnvC scope cl C X.env) fp) elt te) (hs : ∀ x, foldedSetIterable iter X.env x = pure x := by intro _; rfl) (hs1 : ∀ env x, foldedSetIterable iter1 env x = pure x := by intro _ _; rfl) :
    DE XW X (.ListComp elt [⟨tg, iter, ifs, 0⟩, ⟨tg1, iter1, ifs1, 0⟩] scope pos) (dLc2 ow di b tt di1 b1 tt1 te (own.map (·.2)) vs1) :=
  ⟨fun g0 hg0 => PE_imp (pe_lc2 (te := liftE ⟨X.K, X0, L2.E0⟩ te) (tt := liftT ⟨X.K, X0, L2.E0⟩ tt) (tt1 := liftT ⟨X.K, X0, L2.E0⟩ tt1) (wi1 := liftI ⟨X.K, X0, L2.E0⟩ di1) hc hN (hi.pi g0 hg0) ok hv hg (fun s H C cl fp => (ht s H C cl fp).pts (X0, L2.E0) (good_of (takesL) fun _ _ _ h => h)) (fun s H C cl fp => (hi1 s H C cl fp).pi (X0, L2.E0) (good_of (takesL) fun _ _ _ h => h)) hg1 (fun s H C cl fp => (ht1 s H C cl fp).pts (X0, L2.E0) (good_of (takesL) fun _ _ _ h => h)) (fun s H C cl fp => (he s H C cl fp).pe (X0, L2.E0) (good_of (takesL) fun _ _ _ h => h)) hs hs1) fun _ _ _ h => liftLc2 hT hT1 h⟩
end
end DL

namespace DL
open PySem PySem.Spec PyProof.Rows L2 TL
variable {XW : DXK}
/-- the text keys of a written dict -/
def KeyList : List DictEntry → List Str → Prop
  | [], [] => True
  | e :: es, x :: xs => (∃ t, e.key = .str x t) ∧ KeyList es xs
  | _, _ => False
theorem keyList_find : ∀ {es : List DictEntry} {xs : List Str} (z : Str), KeyList es xs → (es.find? (·.key.isStr z)).isSome = decide (z ∈ xs) ∧ es.any (·.refKey) = false
  | [], [], z, _ => by simp
  | e :: es, x :: xs, z, ⟨⟨t, h⟩, q⟩ => by
    obtain ⟨h1, h2⟩ := keyList_find z q
    have hk : e.key.isStr z = decide (x = z) := by
      rw [h]
      show (x == z) = _
      by_cases e : x = z
      · subst e; simp
      · rw [decide_eq_false e]; exact beq_eq_false_iff_ne.mpr e
    have hr : e.refKey = false := by unfold DictEntry.refKey; rw [h]
    refine ⟨?_, by simp [hr, h2]⟩
    rw [List.find?_cons, hk]
    by_cases e0 : x = z
    · simp [e0]
    · have e1 : ¬ z = x := fun w => e0 w.symm
      simp [e0, e1, h1]
  | [], _ :: _, _, h => h.elim
  | _ :: _, [], _, h => h.elim
/-- x in a dict of the module that has these text keys -/
def dInL (a : Addr) (xs : List Str) : DV → DV → Own → DVK → Prop
  | .str z, .ref b, O, Q => b = a ∧ Q (.bl (decide (z ∈ xs))) O
  | _, _, _, _ => False
theorem od_inL {X : Cx} {a : Addr} {es : Array DictEntry} {n : Nat} {xs : List Str} (D : KDict X.K X.w a es n) (hx : KeyList es.toList xs) : OpD X (compareOp .In) (dInL a xs) := by
  refine ⟨fun g0 => OpR_imp ((od_inK D).op g0) ?_⟩
  rintro x y H VQ ⟨F, O, dx, dy, Q, rs, rx, ry, h, fin⟩
  refine ⟨F, O, dx, dy, Q, rs, rx, ry, ?_, fin⟩
  unfold dInL at h
  split at h
  · rename_i z b
    obtain ⟨rfl, h⟩ := h
    obtain ⟨h1, h2⟩ := keyList_find z hx
    refine ⟨rfl, (es.toList.find? (·.key.isStr z)).map (·.val), ?_, ?_⟩
    · unfold PySem.W.nsIn
      rw [D.at_]
      dsimp only
      cases e : es.toList.find? (·.key.isStr z) with
      | some v => rfl
      | none => simp [h2]
    · have e : ((es.toList.find? (·.key.isStr z)).map (·.val)).isSome = decide (z ∈ xs) := by rw [← h1]; cases es.toList.find? (·.key.isStr z) <;> rfl
      rw [e]
      simpa using h
  · exact h.elim
end DL

set_option Elab.async false
set_option linter.all false
set_option maxRecDepth 100000
/-! DMath: small facts about texts, places, lists. -/
namespace DL
open PySem PySem.Spec PyProof.Rows L2 TL
variable {XW : DXK}

abbrev ofL (l : List Nat) : Str := ⟨l.toArray⟩
theorem tl_ofL (l : List Nat) : tl (ofL l) = l := rfl
theorem ofL_tl (x : Str) : ofL (tl x) = x := mk_tl x
theorem ofL_inj {a b : List Nat} (h : ofL a = ofL b) : a = b := by
  have := congrArg tl h
  simpa using this
theorem str_ext {x y : Str} : x = y ↔ tl x = tl y := ⟨fun h => h ▸ rfl, ext_tl⟩
theorem ofL_app (a b : List Nat) : ofL a ++ ofL b = ofL (a ++ b) := ext_tl (by rw [tl_append])
theorem app_ofL (x y : Str) : x ++ y = ofL (tl x ++ tl y) := ext_tl (by rw [tl_append])
theorem ofL_len (l : List Nat) : (ofL l).length = l.length := by rw [len_tl]
theorem line_of {n : Nat} (h : n ≤ 16000000) : n ≤ sizeLine := by
  have := sizeLine_eq
  omega
theorem atI_pos {α : Type} {l : List α} {i : Int} (h : 0 ≤ i) : atI l i = l[i.toNat]? := by
  unfold atI ixN
  rw [if_pos h]
  split
  · rfl
  · rename_i q
    rw [List.getElem?_eq_none (by omega)]; rfl
theorem atI_nat_ {α : Type} {l : List α} (i : Nat) : atI l (i : Int) = l[i]? := by
  rw [atI_pos (Int.natCast_nonneg i)]; rfl
theorem atI_neg1 {α : Type} {l : List α} (h : l ≠ []) : atI l (-1) = l.getLast? := by
  unfold atI ixN
  have hl : 0 < l.length := List.length_pos_iff.mpr h
  rw [if_neg (by decide), if_pos (by omega)]
  have e : (-1 + (l.length : Int)).toNat = l.length - 1 := by omega
  show l[(-1 + (l.length : Int)).toNat]? = _
  rw [e, List.getLast?_eq_getElem?]
theorem cut_int {z : Str} {i j : Int} (hi : 0 ≤ i) (hj : 0 ≤ j) : cutS z (some i) (some j) = ofL (((tl z).drop i.toNat).take (j.toNat - i.toNat)) := by
  apply ext_tl
  unfold cutS
  rw [len_tl]
  have e1 : HT.sIx (tl z).length 0 (some i) = min i.toNat (tl z).length := by
    show (if i < 0 then _ else min i.toNat (tl z).length) = _
    rw [if_neg (by omega)]
  have e2 : HT.sIx (tl z).length (tl z).length (some j) = min j.toNat (tl z).length := by
    show (if j < 0 then _ else min j.toNat (tl z).length) = _
    rw [if_neg (by omega)]
  rw [e1, e2]
  show ((tl z).drop _).take _ = ((tl z).drop i.toNat).take (j.toNat - i.toNat)
  by_cases h : (tl z).length ≤ i.toNat
  · rw [Nat.min_eq_right h, List.drop_eq_nil_of_le (Nat.le_refl _), List.drop_eq_nil_of_le h]; simp
  · have m1 : min i.toNat (tl z).length = i.toNat := by omega
    rw [m1]
    by_cases h2 : j.toNat ≤ (tl z).length
    · rw [Nat.min_eq_left h2]
    · have m2 : min j.toNat (tl z).length = (tl z).length := by omega
      rw [m2]
      rw [List.take_of_length_le (by rw [List.length_drop]; omega), List.take_of_length_le (by rw [List.length_drop]; omega)]
theorem ite_t {A B : Prop} {c : Prop} [Decidable c] (h : c) (x : A) : if c then A else B := by rw [if_pos h]; exact x
theorem ite_f {A B : Prop} {c : Prop} [Decidable c] (h : ¬ c) (x : B) : if c then A else B := by rw [if_neg h]; exact x
theorem ite_c {A B : Prop} {c : Prop} [Decidable c] (h : c → A) (h2 : ¬ c → B) : if c then A else B := by
  by_cases q : c
  · rw [if_pos q]; exact h q
  · rw [if_neg q]; exact h2 q
end DL
namespace DL
open PySem PySem.Spec PyProof.Rows L2 TL
variable {XW : DXK}
theorem tl_one (c : Nat) : tl (⟨#[c]⟩ : Str) = [c] := rfl
end DL
namespace DL
open PySem PySem.Spec PyProof.Rows L2 TL
variable {XW : DXK}
/-- a comprehension whose turns change nothing owned -/
theorem lcW_pure {ow : Bool} {b : DV → DSt → Option DSt} {te : DTE} {S : DSt} {Q : DVK} {O : Own} : ∀ (xs ys acc : List DV), xs.length = ys.length → acc.length + xs.length < 16000000 →
    (∀ (i : Nat) (x y : DV), xs[i]? = some x → ys[i]? = some y → ∀ K : DVK, K y O → onSome (b x S) fun S2 => te S2 O K) → endLc ow Q (acc ++ ys) O → lcW ow b dYes te S Q xs acc O
  | [], [], acc, _, _, _, h => by rw [List.append_nil] at h; exact h
  | [], _ :: _, _, h, _, _, _ => by cases h
  | _ :: _, [], _, h, _, _, _ => by cases h
  | x :: xs, y :: ys, acc, hl, ha, hs, h => by
    have h1 := hs 0 x y rfl rfl (fun y' O3 => acc.length < 16000000 ∧ lcW ow b dYes te S Q xs (acc ++ [y']) O3) ⟨by omega, ?_⟩
    · unfold lcW
      obtain ⟨S2, e, h2⟩ := onSome_ex h1
      exact onSome_of e h2
    · refine lcW_pure xs ys (acc ++ [y]) (by simpa using hl) (by simp at *; omega) (fun i x y e1 e2 => hs (i + 1) x y (by simpa using e1) (by simpa using e2)) ?_
      rw [List.append_assoc]; exact h
theorem lcG_pure {b : DV → DSt → Option DSt} {te : DTE} {S : DSt} {R : List DV → Own → Prop} {O : Own} : ∀ (xs ys acc : List DV), xs.length = ys.length → acc.length + xs.length < 16000000 →
    (∀ (i : Nat) (x y : DV), xs[i]? = some x → ys[i]? = some y → ∀ K : DVK, K y O → onSome (b x S) fun S2 => te S2 O K) → R (acc ++ ys) O → lcG b dYes te S R xs acc O
  | [], [], acc, _, _, _, h => by rw [List.append_nil] at h; exact h
  | [], _ :: _, _, h, _, _, _ => by cases h
  | _ :: _, [], _, h, _, _, _ => by cases h
  | x :: xs, y :: ys, acc, hl, ha, hs, h => by
    have h1 := hs 0 x y rfl rfl (fun y' O3 => acc.length < 16000000 ∧ lcG b dYes te S R xs (acc ++ [y']) O3) ⟨by omega, ?_⟩
    · unfold lcG
      obtain ⟨S2, e, h2⟩ := onSome_ex h1
      exact onSome_of e h2
    · refine lcG_pure xs ys (acc ++ [y]) (by simpa using hl) (by simp at *; omega) (fun i x y e1 e2 => hs (i + 1) x y (by simpa using e1) (by simpa using e2)) ?_
      rw [List.append_assoc]; exact h
end DL
namespace DL
open PySem PySem.Spec PyProof.Rows L2 TL
variable {XW : DXK}
section
variable {α : Type} {l : List α} {n : Nat}
theorem atI_0 : atI l 0 = l[0]? := atI_nat_ 0
theorem atI_1 : atI l 1 = l[1]? := atI_nat_ 1
theorem atI_2 : atI l 2 = l[2]? := atI_nat_ 2
theorem atI_3 : atI l 3 = l[3]? := atI_nat_ 3
theorem atI_4 : atI l 4 = l[4]? := atI_nat_ 4
theorem atI_5 : atI l 5 = l[5]? := atI_nat_ 5
theorem atI_6 : atI l 6 = l[6]? := atI_nat_ 6
theorem atI_7 : atI l 7 = l[7]? := atI_nat_ 7
theorem ixN_nat {k : Nat} (h : k < n) : ixN n (k : Int) = some k := by
  unfold ixN
  rw [if_pos (by omega), if_pos (by omega)]; rfl
theorem ixN_0 : ixN (n + 1) 0 = some 0 := ixN_nat (k := 0) (by omega)
theorem ixN_1 : ixN (n + 2) 1 = some 1 := ixN_nat (k := 1) (by omega)
theorem ixN_2 : ixN (n + 3) 2 = some 2 := ixN_nat (k := 2) (by omega)
theorem ixN_3 : ixN (n + 4) 3 = some 3 := ixN_nat (k := 3) (by omega)
end
end DL
namespace DL
open PySem PySem.Spec PyProof.Rows L2 TL
variable {XW : DXK}
theorem ofs_eq {a b : String} : (Str.ofString a = Str.ofString b) = (a = b) := by
  refine propext ⟨fun h => ?_, fun h => by rw [h]⟩
  rw [Str.ofString_eq_toList, Str.ofString_eq_toList] at h
  have h1 : a.toList.map Char.toNat = b.toList.map Char.toNat := by
    have := congrArg (fun s : Str => s.cps.toList) h
    simpa using this
  have h2 : ∀ l m : List Char, l.map Char.toNat = m.map Char.toNat → l = m := by
    intro l
    induction l with
    | nil => intro m h; cases m with
      | nil => rfl
      | cons c m => cases h
    | cons c l ih => intro m h; cases m with
      | nil => cases h
      | cons d m =>
        simp only [List.map_cons, List.cons.injEq] at h
        rw [Char.toNat_inj.mp h.1, ih m h.2]
  exact String.toList_inj.mp (h2 _ _ h1)
theorem inD_cons {x a : Str} {xs : List DV} : inD (.str x) (.str a :: xs) = (decide (a = x) || inD (.str x) xs) := by
  show (a == x || _) = _
  by_cases e : a = x
  · subst e; simp [inD]
  · rw [decide_eq_false e, beq_eq_false_iff_ne.mpr e]; rfl
theorem inD_nil {x : DV} : inD x [] = false := rfl
/-! ### the figures of a number -/
theorem dig_facts (n : Nat) : (∀ c ∈ Nat.toDigits 10 n, c.toNat ∈ tl (Str.ofString "0123456789")) ∧ Nat.toDigits 10 n ≠ [] ∧ (n ≠ 0 → (Nat.toDigits 10 n).head? ≠ some '0') ∧ ∀ k, n < 10 ^ (k + 1) → (Nat.toDigits 10 n).length ≤ k + 1 := by
  have dc : ∀ d, d < 10 → (Nat.digitChar d).toNat ∈ tl (Str.ofString "0123456789") := by decide +kernel
  have d0 : ∀ d, d < 10 → d ≠ 0 → Nat.digitChar d ≠ '0' := by decide +kernel
  induction n using Nat.strongRecOn with
  | _ n ih =>
    by_cases h : n < 10
    · rw [Nat.toDigits_of_lt_base h]
      refine ⟨fun c hc => by simp at hc; subst hc; exact dc n h, by simp, fun h0 e => d0 n h h0 (by simpa using e), fun k _ => by simp⟩
    · have h' : 10 ≤ n := by omega
      obtain ⟨a1, a2, a3, a4⟩ := ih (n / 10) (by omega)
      rw [Nat.toDigits_of_base_le (by decide) h']
      refine ⟨fun c hc => ?_, by simp, fun _ e => ?_, fun k hk => ?_⟩
      · rcases List.mem_append.mp hc with hc | hc
        · exact a1 c hc
        · simp at hc; subst hc; exact dc _ (Nat.mod_lt _ (by decide))
      · refine a3 (by omega) ?_
        cases ed : Nat.toDigits 10 (n / 10) with
        | nil => exact absurd ed a2
        | cons c l => rw [ed] at e; exact e
      · cases k with
        | zero => simp at hk; omega
        | succ k =>
          have := a4 k (by rw [Nat.pow_succ] at hk; omega)
          rw [List.length_append]; simp; omega
theorem tl_digits (n : Nat) : tl (Str.ofString (toString (n : Int))) = (Nat.toDigits 10 n).map Char.toNat := by
  have e : toString (n : Int) = String.ofList (Nat.toDigits 10 n) := rfl
  rw [e, Str.ofString_eq_toList]
  simp [tl]
theorem log2_of (r : Int) (h0 : 0 ≤ r) (h1 : r < 1000000) : r.natAbs.log2 < 1920 := by
  by_cases h : r.natAbs = 0
  · rw [h]; decide
  · have : r.natAbs < 2 ^ 20 := by have : (2:Nat) ^ 20 = 1048576 := by decide
                                   omega
    have := (Nat.log2_lt h).mpr this
    omega
theorem num_len {n : Nat} (h : n < 1000000) : (tl (Str.ofString (toString (n : Int)))).length ≤ 6 := by
  rw [tl_digits, List.length_map]
  exact (dig_facts n).2.2.2 5 (by show n < 10 ^ 6; omega)
theorem joinL_len2 {sep : List Nat} : ∀ (ps : List (List Nat)), (TL.joinL sep ps).length ≤ (ps.map List.length).sum + ps.length * sep.length
  | [] => by simp [TL.joinL]
  | [p] => by simp [TL.joinL]
  | p :: q :: r => by
    have := joinL_len2 (sep := sep) (q :: r)
    simp only [TL.joinL, List.map_cons, List.sum_cons, List.length_cons, List.length_append] at this ⊢
    simp only [Nat.add_mul, Nat.one_mul] at this ⊢
    omega
theorem sum_len_le {m : Nat} : ∀ {ss : List Str}, (∀ s ∈ ss, (tl s).length ≤ m) → (ss.map fun s => (tl s).length).sum ≤ m * ss.length
  | [], _ => by simp
  | r :: rows, h => by
    have h1 := h r List.mem_cons_self
    have h2 := sum_len_le (ss := rows) fun r hr => h r (List.mem_cons_of_mem _ hr)
    rw [List.map_cons, List.sum_cons, List.length_cons, Nat.mul_add]; omega
theorem join_len {m : Nat} {sep : Str} {ss : List Str} (h : ∀ s ∈ ss, (tl s).length ≤ m) : (tl (Txt.join sep ss)).length ≤ m * ss.length + ss.length * (tl sep).length := by
  rw [TL.join_eq, TL.tl_join]
  have h1 := joinL_len2 (sep := tl sep) (ss.map tl)
  have h2 := sum_len_le h
  rw [List.map_map, List.length_map] at h1
  have e : (List.length ∘ tl : Str → Nat) = fun r => (tl r).length := rfl
  rw [e] at h1
  omega
theorem app_len (x y : Str) : (tl (x ++ y)).length = (tl x).length + (tl y).length := by rw [tl_append, List.length_append]
end DL

set_option Elab.async false
set_option linter.all false
set_option maxRecDepth 100000
/-! DData: more readings of data: tuple(x), list(x), min(i, j), sorted(d), extend, xs * n, d.get. -/
namespace DL
open PySem PySem.Spec PyProof.Rows L2 TL
variable {XW : DXK}
section
variable {X : Cx}
/-- tuple(x) -/
def dTupOf : List DV → Own → DVK → Prop
  | [.lst xs], O, Q => Q (.tup xs) O
  | [.tup xs], O, Q => Q (.tup xs) O
  | [.ref a], O, Q => onL (O a) fun xs => Q (.tup xs) O
  | _, _, _ => False
theorem cd_tuple : CallD X (.type "tuple") dTupOf := by
  refine ⟨fun g0 => CallR_imp call_tuple_of ?_⟩
  rintro vs H VQ ⟨F, O, ds, Q, rs, rr, h, fin⟩
  unfold dTupOf at h
  split at h
  · obtain ⟨v, rfl, r⟩ := rr.one
    cases r with
    | lst e r =>
      refine ⟨_, _, rfl, .inl ⟨.inl (.inl (rs.lst e)), fun p hp => ?_⟩⟩
      exact fin _ _ h _ _ _ (rs.new hp _) (.tup upd_same (r.mono (rs.new hp _).sub))
  · obtain ⟨v, rfl, r⟩ := rr.one
    cases r with
    | tup e r => exact ⟨_, _, rfl, .inr ⟨.inl (.inl (rs.tup e)), fin _ _ h _ _ F (.refl rs) (.tup e r)⟩⟩
  · rename_i a
    obtain ⟨v, rfl, r⟩ := rr.one
    cases r
    obtain ⟨xs, e, h⟩ := onL_ex h
    obtain ⟨_, vs, h1, r1⟩ := rs.own a _ e
    refine ⟨_, _, rfl, .inl ⟨.inl (.inl h1), fun p hp => ?_⟩⟩
    exact fin _ _ h _ _ _ (rs.new hp _) (.tup upd_same (r1.mono (rs.new hp _).sub))
  · exact h.elim
/-- list(x): owned -/
def dListOf : List DV → Own → DVK → Prop
  | [d], O, Q => seqQ O d fun xs => ∀ p, O p = none → Q (.ref p) (oset O p (.lst xs))
  | _, _, _ => False
theorem cd_list : CallD X (.type "list") dListOf := by
  refine ⟨fun g0 => CallR_imp call_list_of ?_⟩
  rintro vs H VQ ⟨F, O, ds, Q, rs, rr, h, fin⟩
  unfold dListOf at h
  split at h
  · obtain ⟨v, rfl, r⟩ := rr.one
    obtain ⟨xs, e, h⟩ := seqQ_ex h
    obtain ⟨a, ws, rfl, h1, r1⟩ := seqOf_at rs r e
    refine ⟨_, _, rfl, h1, fun p hp => ?_⟩
    exact fin _ _ (h p (rs.free hp).2) _ _ F (rs.newO hp ⟨_, upd_same, r1⟩) (.ref p)
  · exact h.elim
/-- min(i, j) -/
def dMin2 : List DV → Own → DVK → Prop
  | [.int i, .int j], O, Q => Q (.int (if j < i then j else i)) O
  | _, _, _ => False
theorem cd_min (hc : X.calm = true) : CallD X (.builtin "min") dMin2 := by
  refine ⟨fun g0 => CallR_imp (call_min2 hc) ?_⟩
  rintro vs H VQ ⟨F, O, ds, Q, rs, rr, h, fin⟩
  unfold dMin2 at h
  split at h
  · obtain ⟨v, w, rfl, r, r2⟩ := rr.two
    cases r; cases r2
    exact ⟨_, _, rfl, fin _ _ h _ _ F (.refl rs) (.int _)⟩
  · exact h.elim
/-- xs.extend(ys) -/
def dExt : DV → List DV → Own → DVK → Prop
  | .ref a, [d], O, Q => onL (O a) fun xs => lstQ O d fun zs => xs.length + zs.length ≤ sizeLine ∧ Q .non (oset O a (.lst (xs ++ zs)))
  | _, _, _, _ => False
theorem md_extend : MtD X "list.extend" dExt := by
  refine ⟨fun g0 => MtR_imp mt_extend ?_⟩
  rintro x xs H VQ ⟨F, O, d, ds, Q, rs, rx, rr, h, fin⟩
  unfold dExt at h
  split at h
  · rename_i a y
    cases rx
    obtain ⟨v, rfl, ry⟩ := rr.one
    obtain ⟨ys, e, h⟩ := onL_ex h
    obtain ⟨zs, e2, h⟩ := lstQ_ex h
    obtain ⟨_, vs, h1, r1⟩ := rs.own a _ e
    obtain ⟨b, ws, rfl, h2, r2⟩ := lstOf_at rs ry e2
    refine ⟨a, b, vs, ws, rfl, rfl, h1, h2, by rw [r1.len, r2.len]; exact h.1, ?_⟩
    exact fin _ _ h.2 _ _ F (rs.write e ⟨_, upd_same, r1.append r2⟩) .non
  · exact h.elim
/-- xs * n: frozen -/
def dMulL : DV → DV → Own → DVK → Prop
  | d, .int k, O, Q => lstQ O d fun xs => -(2 ^ 63) ≤ k ∧ k < 2 ^ 63 ∧ xs.length * k.toNat ≤ sizeLine ∧ Q (.lst (List.replicate k.toNat xs).flatten) O
  | _, _, _, _ => False
theorem Reps.rep {K : KG} {F : Hp} {vs : List V} {ds : List DV} (r : Reps K F vs ds) : ∀ n : Nat, Reps K F (List.replicate n vs).flatten (List.replicate n ds).flatten
  | 0 => .nil
  | n + 1 => by rw [List.replicate_succ, List.replicate_succ, List.flatten_cons, List.flatten_cons]; exact r.append (Reps.rep r n)
theorem od_mulL : OpD X (binaryOp .Mult) dMulL := by
  refine ⟨fun g0 => OpR_imp op_rep ?_⟩
  rintro x y H VQ ⟨F, O, dx, dy, Q, rs, rx, ry, h, fin⟩
  unfold dMulL at h
  split at h
  · cases ry
    obtain ⟨xs, e, h⟩ := lstQ_ex h
    obtain ⟨a, vs, rfl, h1, r1⟩ := lstOf_at rs rx e
    refine ⟨a, _, vs, rfl, rfl, h1, h.1, h.2.1, by rw [r1.len]; exact h.2.2.1, fun p hp => ?_⟩
    exact fin _ _ h.2.2.2 _ _ _ (rs.new hp _) (.lst upd_same ((r1.rep _).mono (rs.new hp _).sub))
  · exact h.elim
end
end DL
namespace DL
open PySem PySem.Spec PyProof.Rows L2 TL
variable {XW : DXK}
section
variable {X : Cx} {o e f : Expr} {apos cpos : Pos} {td ty tx : DTE}
def dIsD (O : Own) : DV → Prop
  | .dK _ => True
  | .dT _ => True
  | .ref a => match O a with
    | some (.dK _) => True
    | some (.dT _) => True
    | _ => False
  | _ => False
theorem isD_of {K : KG} {F H : Hp} {O : Own} {v : V} {d : DV} (rs : RS K F O H) (r : Rep K F v d) (h : dIsD O d) : ∃ a, v = .ref a ∧ IsD H a := by
  have lk : ∀ {a : Addr} {o : HO}, F a = some o → Lk o → Rd H a o := fun e l => by
    rcases rs.fro _ _ e with q | ⟨_, ob, q⟩
    · exact .inl q
    · exact .inr ⟨ob, q⟩
  cases r with
  | dK e r => exact ⟨_, rfl, .inl ⟨_, lk e trivial⟩⟩
  | dT e r => exact ⟨_, rfl, .inr ⟨_, lk e trivial⟩⟩
  | ref a =>
    refine ⟨_, rfl, ?_⟩
    cases e : O a with
    | none => simp [dIsD, e] at h
    | some c =>
      cases c with
      | dK es => obtain ⟨_, kvs, h1, _⟩ := rs.own a _ e; exact .inl ⟨_, .inl h1⟩
      | dT es => obtain ⟨_, kvs, h1, _⟩ := rs.own a _ e; exact .inr ⟨_, .inl h1⟩
      | lst _ => simp [dIsD, e] at h
      | ins _ _ => simp [dIsD, e] at h
      | xd _ => simp [dIsD, e] at h
      | tbl _ => simp [dIsD, e] at h
  | _ => exact h.elim
/-- d.get(k) -/
def dGet1 (td ty : DTE) (S : DSt) (O : Own) (Q : DVK) : Prop := td S O fun x O1 => dIsD O1 x ∧ ty S O1 fun y O2 => findQ O2 x y fun r => Q (r.getD .non) O2
/-- d.get(k, z) -/
def dGet2 (td ty tx : DTE) (S : DSt) (O : Own) (Q : DVK) : Prop := td S O fun x O1 => dIsD O1 x ∧ ty S O1 fun y O2 => tx S O2 fun z O3 => findQ O3 x y fun r => Q (r.getD z) O3
theorem de_get1 (hu : X.A.units + 1 < cLine) (ho : DE XW X o td) (he : DE XW X e ty) (m : M1 X o "get" apos e cpos) : DE XW X (.Call (.Attribute o "get" apos) [e] [] cpos) (dGet1 td ty) := by
  refine ⟨fun g0 hg0 => PE_imp (pe_dget1 hu (ho.pe g0 hg0) (he.pe g0 hg0) m) ?_⟩
  rintro σ H VQ ⟨F, O, S, Q, rs, sr, h, fin⟩
  refine ⟨F, O, S, _, rs, sr, h, fun dx O1 h1 x H1 F1 s1 rx => ?_⟩
  obtain ⟨a, rfl, ha⟩ := isD_of s1.rs rx h1.1
  refine ⟨a, rfl, ha, F1, O1, S, _, s1.rs, sr.mono s1.sub, h1.2, fun dy O2 h2 y H2 F2 s2 ry => ?_⟩
  obtain ⟨r, e, h2⟩ := findQ_ex h2
  obtain ⟨p, o, e1, h3, h4, h5⟩ := dfind_at s2.rs (rx.mono s2.sub) ry e
  cases e1
  refine ⟨o, h3, ?_⟩
  cases r with
  | none => rw [h5 rfl]; exact fin _ _ h2 _ H2 F2 (s1.trans s2) .non
  | some d => obtain ⟨w', rfl, r⟩ := h4 d rfl; exact fin _ _ h2 _ H2 F2 (s1.trans s2) r
theorem de_get2 (hu : X.A.units + 1 < cLine) (ho : DE XW X o td) (he : DE XW X e ty) (hf : DE XW X f tx) (m : M2 X o "get" apos e f cpos) : DE XW X (.Call (.Attribute o "get" apos) [e, f] [] cpos) (dGet2 td ty tx) := by
  refine ⟨fun g0 hg0 => PE_imp (pe_dget2 hu (ho.pe g0 hg0) (he.pe g0 hg0) (hf.pe g0 hg0) m) ?_⟩
  rintro σ H VQ ⟨F, O, S, Q, rs, sr, h, fin⟩
  refine ⟨F, O, S, _, rs, sr, h, fun dx O1 h1 x H1 F1 s1 rx => ?_⟩
  obtain ⟨a, rfl, ha⟩ := isD_of s1.rs rx h1.1
  refine ⟨a, rfl, ha, F1, O1, S, _, s1.rs, sr.mono s1.sub, h1.2, fun dy O2 h2 y H2 F2 s2 ry => ⟨F2, O2, S, _, s2.rs, sr.mono (s1.sub.trans s2.sub), h2, fun dz O3 h3 z H3 F3 s3 rz => ?_⟩⟩
  obtain ⟨r, e, h3⟩ := findQ_ex h3
  obtain ⟨p, o, e1, h4, h5, h6⟩ := dfind_at s3.rs (rx.mono (s2.sub.trans s3.sub)) (ry.mono s3.sub) e
  cases e1
  refine ⟨o, h4, ?_⟩
  cases r with
  | none => rw [h6 rfl]; exact fin _ _ h3 _ H3 F3 ((s1.trans s2).trans s3) rz
  | some d => obtain ⟨w', rfl, r⟩ := h5 d rfl; exact fin _ _ h3 _ H3 F3 ((s1.trans s2).trans s3) r
/-- sorted(d) of texts: frozen -/
def dSortD : List DV → Own → DVK → Prop
  | [d], O, Q => dkQ O d fun es => ∃ ks : List Str, es.map (·.1) = ks.map Sum.inr ∧ ks.length < 64 ∧ ∀ ys : List Str, ys.Perm ks → Q (.lst (ys.map DV.str)) O
  | _, _, _ => False
theorem RepK.keys {K : KG} {F : Hp} : ∀ {kvs : List (Key × V)} {es : List (Key × DV)}, RepK K F kvs es → kvs.map (·.1) = es.map (·.1)
  | _, _, .nil => rfl
  | _, _, .cons _ r => by rw [List.map_cons, List.map_cons, RepK.keys r]
theorem cd_sortD (hc : X.calm = true) : CallD X (.builtin "sorted") dSortD := by
  refine ⟨fun g0 => CallR_imp (call_sortedD hc) ?_⟩
  rintro vs H VQ ⟨F, O, ds, Q, rs, rr, h, fin⟩
  unfold dSortD at h
  split at h
  · obtain ⟨v, rfl, r⟩ := rr.one
    obtain ⟨es, e, ks, h1, h2, h⟩ := dkQ_ex h
    obtain ⟨a, kvs, rfl, h3, r1⟩ := dkOf_at rs r e
    refine ⟨a, kvs, ks, rfl, h3, by rw [r1.keys, h1], h2, fun ys p hp _ hH => ?_⟩
    exact fin _ _ (h ys hp) _ _ _ (rs.new hH _) (.lst upd_same (Reps.of_strs _))
  · exact h.elim
end
end DL

set_option Elab.async false
set_option linter.all false
set_option maxRecDepth 100000
/-! DKey: written dicts with flat values: d.get(k, z), d[k]. -/
namespace DL
open PySem PySem.Spec PyProof.Rows L2 TL
variable {XW : DXK}
/-- a value that stands as it is told -/
def LitD (d : DV) (u : Value) : Prop := ∃ v, RelV v u ∧ ∀ (K : PySem.W.Frag) (F : Hp), Rep K F v d
def KeyVals : List DictEntry → List (Str × DV) → Prop
  | [], [] => True
  | e :: es, x :: xs => ((∃ t, e.key = .str x.1 t) ∧ LitD x.2 e.val) ∧ KeyVals es xs
  | _, _ => False
def klook : List (Str × DV) → Str → Option DV
  | [], _ => none
  | x :: xs, z => if x.1 = z then some x.2 else klook xs z
theorem keyVals_find : ∀ {es : List DictEntry} {xs : List (Str × DV)} (z : Str), KeyVals es xs → es.any (·.refKey) = false ∧
    ((klook xs z = none ∧ es.find? (·.key.isStr z) = none) ∨ ∃ d e, klook xs z = some d ∧ es.find? (·.key.isStr z) = some e ∧ LitD d e.val)
  | [], [], z, _ => ⟨rfl, .inl ⟨rfl, rfl⟩⟩
  | e :: es, x :: xs, z, ⟨⟨⟨t, h⟩, hv⟩, q⟩ => by
    obtain ⟨h1, h2⟩ := keyVals_find z q
    have hk : e.key.isStr z = decide (x.1 = z) := by
      rw [h]
      show (x.1 == z) = _
      by_cases e : x.1 = z
      · rw [e]; simp
      · rw [decide_eq_false e]; exact beq_eq_false_iff_ne.mpr e
    have hr : e.refKey = false := by unfold DictEntry.refKey; rw [h]
    refine ⟨by simp [hr, h1], ?_⟩
    rw [List.find?_cons, hk]
    unfold klook
    by_cases e0 : x.1 = z
    · rw [if_pos e0, decide_eq_true e0]; exact .inr ⟨_, _, rfl, rfl, hv⟩
    · rw [if_neg e0, decide_eq_false e0]; exact h2
  | [], _ :: _, _, h => h.elim
  | _ :: _, [], _, h => h.elim
theorem nsIn_vals {K : PySem.W.Frag} {w : World} {a : Addr} {es : Array DictEntry} {n : Nat} {xs : List (Str × DV)} (D : KDict K w a es n) (hx : KeyVals es.toList xs) (z : Str) :
    (klook xs z = none ∧ PySem.W.nsIn K a z = some none) ∨ ∃ d u, klook xs z = some d ∧ PySem.W.nsIn K a z = some (some u) ∧ LitD d u := by
  obtain ⟨h1, h2⟩ := keyVals_find z hx
  unfold PySem.W.nsIn
  rw [D.at_]
  dsimp only
  rcases h2 with ⟨h3, h4⟩ | ⟨d, e, h3, h4, h5⟩
  · refine .inl ⟨h3, ?_⟩
    rw [h4]; simp [h1]
  · refine .inr ⟨d, e.val, h3, ?_, h5⟩
    rw [h4]
section
variable {X : Cx} {d : Addr} {es : Array DictEntry} {n : Nat} {xs : List (Str × DV)} {o e f : Expr} {apos cpos : Pos}
def tKGet2 (K : PySem.W.Frag) (d : Addr) (td ty tx : TE) : TE := fun σ H Q => td σ H fun x H1 => x = .ref d ∧ ty σ H1 fun y H2 => tx σ H2 fun z H3 => ∃ (k : Str) (r : Option Value), y = .str k ∧ PySem.W.nsIn K d k = some r ∧
  ((r = none ∧ Q z H3) ∨ ∃ u v, r = some u ∧ RelV v u ∧ Q v H3)
theorem pe_kget2 {td ty tx : TE} (D : KDict X.K X.w d es n) (ho : PE X o td) (he : PE X e ty) (hf : PE X f tx) (m : M2 X o "get" apos e f cpos) : PE X (.Call (.Attribute o "get" apos) [e, f] [] cpos) (tKGet2 X.K d td ty tx) := by
  refine ⟨fun pins s σ H Q I h => ?_⟩
  refine wpAny_Call_method m.base m.few m.line PySem.F.plainAttrs_dict PySem.F.slot_dict_get PySem.F.type_dict_get (thn (ho.run pins s σ H _ I h) fun u s1 ⟨x, H1, I1, rx, ex, q1⟩ => ?_)
  subst ex
  obtain rfl : u = Value.ref d := rx
  refine ⟨kd_type D I1, fun b eb => ?_, ?_⟩
  · cases eb
    exact ⟨_, I1.kIn _ _ D.at_, rfl⟩
  rw [m.trees]
  refine Calls.callWith_builtin rfl (Calls.evalArgs_plain (Calls.spliced_cons (thn (he.run pins s1 σ H1 _ I1 q1) fun iv s2 ⟨y, H2, I2, ry, q2⟩ =>
    Calls.spliced_cons (thn (hf.run pins s2 σ H2 _ I2 q2) fun fv s3 ⟨z, H3, I3, rz, k, r, ey, g, q3⟩ => Calls.spliced_nil ?_))))
  subst ey
  obtain ⟨t, rfl⟩ := ry
  refine call_meetsIn PySem.F.slot_dict_get (kd_type D I3) PySem.F.entry_dict_get (PySem.F.args_dict_get_3 _ _ _) (meets_dict_get_default (PySem.strKind X.prog X.w) d (PySem.strKind_is X.prog X.w k t) D.low fv) ⟨_, PySem.W.mapOf_K (prog := X.prog) I3.kIn D.at_ D.lit, ?_⟩
  rw [PySem.W.find_K D.at_ g]
  rcases q3 with ⟨rfl, q3⟩ | ⟨u, v, rfl, rv, q3⟩
  · exact ⟨z, H3, I3.tok _, rz, q3⟩
  · exact ⟨v, H3, I3.tok _, rv, q3⟩
def kStr1 (Q : Str → Own → Prop) : DV → Own → Prop
  | .str k, O => Q k O
  | _, _ => False
/-- d.get(k, z) of a written dict -/
def dKGet2 (d : Addr) (xs : List (Str × DV)) (td ty tx : DTE) (S : DSt) (O : Own) (Q : DVK) : Prop := td S O fun x O1 => x = .ref d ∧ ty S O1 (kStr1 fun k O2 => tx S O2 fun z O3 => Q ((klook xs k).getD z) O3)
theorem de_kget2 {td ty tx : DTE} (D : KDict X.K X.w d es n) (hx : KeyVals es.toList xs) (ho : DE XW X o td) (he : DE XW X e ty) (hf : DE XW X f tx) (m : M2 X o "get" apos e f cpos) : DE XW X (.Call (.Attribute o "get" apos) [e, f] [] cpos) (dKGet2 d xs td ty tx) := by
  refine ⟨fun g0 hg0 => PE_imp (pe_kget2 D (ho.pe g0 hg0) (he.pe g0 hg0) (hf.pe g0 hg0) m) ?_⟩
  rintro σ H VQ ⟨F, O, S, Q, rs, sr, h, fin⟩
  refine ⟨F, O, S, _, rs, sr, h, fun dx O1 h1 x H1 F1 s1 rx => ?_⟩
  obtain ⟨rfl, h1⟩ := h1
  cases rx
  refine ⟨rfl, F1, O1, S, _, s1.rs, sr.mono s1.sub, h1, fun dy O2 h2 y H2 F2 s2 ry => ?_⟩
  cases dy with
  | str k =>
    refine ⟨F2, O2, S, _, s2.rs, sr.mono (s1.sub.trans s2.sub), h2, fun dz O3 h3 z H3 F3 s3 rz => ?_⟩
    cases ry
    rcases nsIn_vals D hx k with ⟨e1, e2⟩ | ⟨dd, u, e1, e2, v, rv, rd⟩
    · refine ⟨k, none, rfl, e2, .inl ⟨rfl, ?_⟩⟩
      rw [e1] at h3
      exact fin _ _ h3 _ H3 F3 ((s1.trans s2).trans s3) rz
    · refine ⟨k, some u, rfl, e2, .inr ⟨u, v, rfl, rv, ?_⟩⟩
      rw [e1] at h3
      exact fin _ _ h3 _ H3 F3 ((s1.trans s2).trans s3) (rd _ _)
  | _ => exact h2.elim
end
end DL
namespace DL
open PySem PySem.Spec PyProof.Rows L2 TL
variable {XW : DXK}
def kPar3 (i j l : Nat) (nx : DSt → Own → Prop) (S : DSt) : List DV → Own → Prop
  | [u, v, w], O1 => nx (((S.set i (some u)).set j (some v)).set l (some w)) O1
  | _, _ => False
theorem kPar3_e1 {i j l : Nat} {nx : DSt → Own → Prop} {S : DSt} {u v w : DV} {O : Own} : kPar3 i j l nx S [u, v, w] O = nx (((S.set i (some u)).set j (some v)).set l (some w)) O := rfl
def dPar3 (i j l : Nat) (ta : DTA) (D : DEnds) (S : DSt) (O : Own) : Prop := ta S O (kPar3 i j l D.nx S)
/-- a, b, c = x, y, z with plain local names -/
theorem ds_par3 {X : Cx} (i j l : Nat) {x y z : Str} {a b c : Expr} {ta : DTA} {px py pz pt pos : Pos} {kt k2 pt2} (hN : X.N.Nodup) (ha : DA XW X [a, b, c] ta) (hc : X.calm = true := by rfl) (hi : X.N[i]? = some x := by rfl) (hj : X.N[j]? = some y := by rfl) (hl : X.N[l]? = some z := by rfl)
    (hij : i ≠ j := by decide) (hil : i ≠ l := by decide) (hjl : j ≠ l := by decide)
    (hx : X.env.scope.names.lookup x = some .local := by rfl) (hy : X.env.scope.names.lookup y = some .local := by rfl) (hz : X.env.scope.names.lookup z = some .local := by rfl)
    (hw : swappedStores [.Tuple [.Name x px, .Name y py, .Name z pz] kt pt] (.Tuple [a, b, c] k2 pt2) X.env = pure (some [x, y, z]) := by rfl)
    (hs : swapsWithSole [.Tuple [.Name x px, .Name y py, .Name z pz] kt pt] (.Tuple [a, b, c] k2 pt2) pos.line X.env = pure false := by rfl) :
    DS XW X (.Assign [.Tuple [.Name x px, .Name y py, .Name z pz] kt pt] (.Tuple [a, b, c] k2 pt2) pos) (dPar3 i j l ta) := by
  refine ⟨fun g0 hg0 => PS_imp (ps_par3 hc hN hi hj hl hij hil hjl hx hy hz (ha.pa g0 hg0) hw hs) ?_⟩
  rintro VD σ H ⟨F, O, S, D, rs, sr, h, fin⟩
  refine ⟨F, O, S, _, rs, sr, h, fun ds O1 h1 vs H1 F1 s1 r1 => ?_⟩
  unfold kPar3 at h1
  split at h1
  · cases r1 with
    | cons ra r1 =>
      cases r1 with
      | cons rb r1 =>
        cases r1 with
        | cons rc r1 =>
          cases r1
          exact ⟨_, _, _, rfl, fin.nx _ _ h1 _ H1 F1 s1 ((((sr.mono s1.sub).set i ra).set j rb).set l rc)⟩
  · exact h1.elim
end DL
namespace DL
open PySem PySem.Spec PyProof.Rows L2 TL
variable {XW : DXK}
/-- {k: v, ..}, frozen at once -/
def dDispF (trs : List (DTE × DTE)) (S : DSt) (O : Own) (Q : DVK) : Prop := dPairs trs S O fun ps O1 => onSome (kvsOf ps) fun es => es.length ≤ 15 ∧ Q (.dK (dmerge [] es)) O1
theorem de_dispF {X : Cx} {pos : Pos} {keys : List (Option Expr)} {values : List Expr} {trs : List (DTE × DTE)} (h : DPPs XW X pos keys values trs) (hall : keys.all (·.isSome) = true := by rfl) (hl : keys.length = values.length := by rfl) (h0 : keys ≠ [] := by exact fun z => nomatch z)
    (h15 : keys.length ≤ 15 := by decide) : DE XW X (.Dict keys values pos) (dDispF trs) := by
  refine ⟨fun g0 hg0 => PE_imp (pe_disp (h.pps g0 hg0) hall hl h0 h15) ?_⟩
  rintro σ H VQ ⟨F, O, S, Q, rs, sr, h, fin⟩ p hp
  obtain ⟨hf, ho⟩ := rs.free hp
  have s0 := (Stp.refl rs).side rs hp hf ho (.dK [])
  refine liftPairs s0.rs sr h fun ps O1 h1 vs H1 F1 s1 r1 => ?_
  obtain ⟨es, e, h1⟩ := onSome_ex h1
  obtain ⟨kvs, h2, r2⟩ := kvsOf_at r1 e
  obtain ⟨k1, k2⟩ := s1.keep p _ upd_same ho
  have k3 := s1.nof p _ upd_same ho hf
  refine ⟨k1, kvs, h2, by rw [r2.len]; exact h1.1, fin _ _ h1.2 _ _ (upd F1 p (.dK _)) (Stp.mk' rs (s1.sub.trans (Sub.upd k3)) ⟨fun b u e => ?_, fun b c e => ?_⟩ (fun b u q1 q2 => ?_) (fun b u q1 q2 q3 => ?_)) (.dK upd_same ((RepK.merge r2 .nil).mono (Sub.upd k3)))⟩
  · by_cases hb : b = p
    · subst hb; rw [upd_same] at e ⊢; exact .inl e
    · rw [upd_ne hb] at e; rw [upd_ne hb]; exact s1.rs.fro b u e
  · have hb : b ≠ p := fun z => by subst z; rw [k2] at e; cases e
    obtain ⟨h3, h4⟩ := s1.rs.own b c e
    exact ⟨by rw [upd_ne hb]; exact h3, h4.mono (Sub.upd k3) (upd_ne hb)⟩
  · have hb : b ≠ p := fun z => by subst z; rw [hp] at q1; cases q1
    obtain ⟨z1, z2⟩ := s1.keep b u (by rw [upd_ne hb]; exact q1) q2
    exact ⟨by rw [upd_ne hb]; exact z1, z2⟩
  · have hb : b ≠ p := fun z => by subst z; rw [hp] at q1; cases q1
    rw [upd_ne hb]
    exact s1.nof b u (by rw [upd_ne hb]; exact q1) q2 q3
end DL

set_option Elab.async false
set_option linter.all false
set_option maxRecDepth 100000
set_option autoImplicit true
namespace DL
open PySem PySem.Spec PyProof.Rows L2 TL
theorem onSome_e1 {α : Type} {x : α} {K : α → Prop} : onSome (some x) K = K x := rfl
theorem onL_e1 {xs : _} {K : _} : onL  (some (.lst xs)) K = (K xs) := by first | rfl | (cases x <;> rfl)
theorem lstQ_e1 (O : Own) {xs : _} {K : _} : lstQ O (.lst xs) K = (K xs) := by first | rfl | (cases x <;> rfl)
theorem lstQ_e2 (O : Own) {a : _} {K : _} : lstQ O (.ref a) K = (onL (O a) K) := by first | rfl | (cases x <;> rfl)
theorem seqQ_e1 (O : Own) {xs : _} {K : _} : seqQ O (.lst xs) K = (K xs) := by first | rfl | (cases x <;> rfl)
theorem seqQ_e2 (O : Own) {xs : _} {K : _} : seqQ O (.slst xs) K = (K xs) := by first | rfl | (cases x <;> rfl)
theorem seqQ_e3 (O : Own) {xs : _} {K : _} : seqQ O (.tup xs) K = (K xs) := by first | rfl | (cases x <;> rfl)
theorem seqQ_e4 (O : Own) {xs : _} {K : _} : seqQ O (.stup xs) K = (K xs) := by first | rfl | (cases x <;> rfl)
theorem seqQ_e5 (O : Own) {a : _} {K : _} : seqQ O (.ref a) K = (onL (O a) K) := by first | rfl | (cases x <;> rfl)
theorem sqlQ_e1 (O : Own) {xs : _} {K : _} : sqlQ O (.lst xs) K = (K xs) := by first | rfl | (cases x <;> rfl)
theorem sqlQ_e2 (O : Own) {xs : _} {K : _} : sqlQ O (.slst xs) K = (K xs) := by first | rfl | (cases x <;> rfl)
theorem sqlQ_e3 (O : Own) {a : _} {K : _} : sqlQ O (.ref a) K = (onL (O a) K) := by first | rfl | (cases x <;> rfl)
theorem onK_e1 {es : _} {K : _} : onK  (some (.dK es)) K = (K es) := by first | rfl | (cases x <;> rfl)
theorem onT_e1 {es : _} {K : _} : onT  (some (.dT es)) K = (K es) := by first | rfl | (cases x <;> rfl)
theorem dkQ_e1 (O : Own) {es : _} {K : _} : dkQ O (.dK es) K = (K es) := by first | rfl | (cases x <;> rfl)
theorem dkQ_e2 (O : Own) {a : _} {K : _} : dkQ O (.ref a) K = (onK (O a) K) := by first | rfl | (cases x <;> rfl)
theorem dtQ_e1 (O : Own) {es : _} {K : _} : dtQ O (.dT es) K = (K es) := by first | rfl | (cases x <;> rfl)
theorem dtQ_e2 (O : Own) {a : _} {K : _} : dtQ O (.ref a) K = (onT (O a) K) := by first | rfl | (cases x <;> rfl)
theorem findQ_e1 (O : Own) (x : DV) {z : _} {K : _} : findQ O x (.str z) K = (dkQ O x fun es => K (dget es (.inr z))) := by first | rfl | (cases x <;> rfl)
theorem findQ_e2 (O : Own) (x : DV) {i : _} {K : _} : findQ O x (.int i) K = (dkQ O x fun es => K (dget es (.inl i))) := by first | rfl | (cases x <;> rfl)
theorem findQ_e3 (O : Own) (x : DV) {ds : _} {K : _} : findQ O x (.tup ds) K = (onSome (keysD ds) fun k => dtQ O x fun es => K (dget es k)) := by first | rfl | (cases x <;> rfl)
theorem dAdd_e1 {i : _} {j : _} {O : _} {Q : _} : dAdd  (.int i) (.int j) O Q = (Q (.int (i + j)) O) := by first | rfl | (cases x <;> rfl)
theorem dAdd_e2 {i : _} {k : _} {O : _} {Q : _} : dAdd  (.int i) (.bl k) O Q = (Q (.int (i + b2i k)) O) := by first | rfl | (cases x <;> rfl)
theorem dAdd_e3 {a : _} {b : _} {O : _} {Q : _} : dAdd  (.str a) (.str b) O Q = (a.length + b.length ≤ sizeLine ∧ Q (.str (a ++ b)) O) := by first | rfl | (cases x <;> rfl)
theorem dAdd_e4 {xs : _} {ys : _} {O : _} {Q : _} : dAdd  (.tup xs) (.tup ys) O Q = (xs.length + ys.length ≤ sizeLine ∧ Q (.tup (xs ++ ys)) O) := by first | rfl | (cases x <;> rfl)
theorem dAdd_e5 {xs : _} {ys : _} {O : _} {Q : _} : dAdd  (.lst xs) (.lst ys) O Q = (xs.length + ys.length ≤ sizeLine ∧ Q (.lst (xs ++ ys)) O) := by first | rfl | (cases x <;> rfl)
theorem dAdd_e6 {a : _} {y : _} {O : _} {Q : _} : dAdd  (.ref a) y O Q = (onL (O a) fun xs => lstQ O y fun ys => xs.length + ys.length ≤ sizeLine ∧ Q (.lst (xs ++ ys)) O) := by first | rfl | (cases x <;> rfl)
theorem dAdd_e7 {xs : _} {b : _} {O : _} {Q : _} : dAdd  (.lst xs) (.ref b) O Q = (onL (O b) fun ys => xs.length + ys.length ≤ sizeLine ∧ Q (.lst (xs ++ ys)) O) := by first | rfl | (cases x <;> rfl)
theorem dI2_e1 (C : Int → Int → Prop) (g : Int → Int → DV) {i : _} {j : _} {O : _} {Q : _} : dI2 C g (.int i) (.int j) O Q = (C i j ∧ Q (g i j) O) := by first | rfl | (cases x <;> rfl)
theorem dSub_e1 {i : _} {j : _} {O : _} {Q : _} : dSub  (.int i) (.int j) O Q = (Q (.int (i - j)) O) := by first | rfl | (cases x <;> rfl)
theorem dCmpI_e1 (p : Int → Int → Bool) {i : _} {j : _} {O : _} {Q : _} : dCmpI p (.int i) (.int j) O Q = (Q (.bl (p i j)) O) := by first | rfl | (cases x <;> rfl)
theorem dEq_e1 (neg : Bool) {i : _} {j : _} {O : _} {Q : _} : dEq neg (.int i) (.int j) O Q = (Q (.bl (if neg then !decide (i = j) else decide (i = j))) O) := by first | rfl | (cases x <;> rfl)
theorem dEq_e2 (neg : Bool) {i : _} {j : _} {O : _} {Q : _} : dEq neg (.str i) (.str j) O Q = (Q (.bl (if neg then !decide (i = j) else decide (i = j))) O) := by first | rfl | (cases x <;> rfl)
theorem dEq_e3 (neg : Bool) {i : _} {j : _} {O : _} {Q : _} : dEq neg (.bl i) (.bl j) O Q = (Q (.bl (if neg then !decide (i = j) else decide (i = j))) O) := by first | rfl | (cases x <;> rfl)
theorem dEq_e4 (neg : Bool) {xs : _} {y : _} {O : _} {Q : _} : dEq neg (.lst xs) y O Q = (dEqP neg (.lst xs) y O Q) := by first | rfl | (cases x <;> rfl)
theorem dEq_e5 (neg : Bool) {xs : _} {y : _} {O : _} {Q : _} : dEq neg (.tup xs) y O Q = (dEqP neg (.tup xs) y O Q) := by first | rfl | (cases x <;> rfl)
theorem dEq_e6 (neg : Bool) {xs : _} {y : _} {O : _} {Q : _} : dEq neg (.stup xs) y O Q = (dEqP neg (.stup xs) y O Q) := by first | rfl | (cases x <;> rfl)
theorem dEq_e7 (neg : Bool) {y : _} {O : _} {Q : _} : dEq neg (.non) y O Q = (dEqP neg .non y O Q) := by first | rfl | (cases x <;> rfl)
theorem dEq_e8 (neg : Bool) {i : _} {O : _} {Q : _} : dEq neg (.int i) (.non) O Q = (dEqP neg (.int i) .non O Q) := by first | rfl | (cases x <;> rfl)
theorem dEq_e9 (neg : Bool) {i : _} {y : _} {O : _} {Q : _} : dEq neg (.int i) (.str y) O Q = (dEqP neg (.int i) (.str y) O Q) := by first | rfl | (cases x <;> rfl)
theorem dEq_e10 (neg : Bool) {i : _} {y : _} {O : _} {Q : _} : dEq neg (.int i) (.tup y) O Q = (dEqP neg (.int i) (.tup y) O Q) := by first | rfl | (cases x <;> rfl)
theorem dEq_e11 (neg : Bool) {i : _} {y : _} {O : _} {Q : _} : dEq neg (.int i) (.lst y) O Q = (dEqP neg (.int i) (.lst y) O Q) := by first | rfl | (cases x <;> rfl)
theorem dEq_e12 (neg : Bool) {i : _} {O : _} {Q : _} : dEq neg (.str i) (.non) O Q = (dEqP neg (.str i) .non O Q) := by first | rfl | (cases x <;> rfl)
theorem dEq_e13 (neg : Bool) {i : _} {y : _} {O : _} {Q : _} : dEq neg (.str i) (.int y) O Q = (dEqP neg (.str i) (.int y) O Q) := by first | rfl | (cases x <;> rfl)
theorem dEq_e14 (neg : Bool) {i : _} {y : _} {O : _} {Q : _} : dEq neg (.str i) (.tup y) O Q = (dEqP neg (.str i) (.tup y) O Q) := by first | rfl | (cases x <;> rfl)
theorem dEq_e15 (neg : Bool) {i : _} {y : _} {O : _} {Q : _} : dEq neg (.str i) (.lst y) O Q = (dEqP neg (.str i) (.lst y) O Q) := by first | rfl | (cases x <;> rfl)
theorem dIsN_e1 (neg : Bool) {x : _} {O : _} {Q : _} : dIsN neg x (.non) O Q = (Q (.bl (if neg then !isNon x else isNon x)) O) := by first | rfl | (cases x <;> rfl)
theorem isNon_e1 : isNon  (.non) = (true) := by first | rfl | (cases x <;> rfl)
theorem dInS_e1 (neg : Bool) (z : Str) (O : Own) (Q : DVK) (c : Str) {k : _} : dInS neg z O Q c [k] = (Q (.bl (if neg then !decide (k ∈ tl z) else decide (k ∈ tl z))) O) := by first | rfl | (cases x <;> rfl)
theorem dIn_e1 (neg : Bool) {c : _} {z : _} {O : _} {Q : _} : dIn neg (.str c) (.str z) O Q = (dInS neg z O Q c (tl c)) := by first | rfl | (cases x <;> rfl)
theorem dIn_e2 (neg : Bool) {x : _} {xs : _} {O : _} {Q : _} : dIn neg x (.lst xs) O Q = (dInQ neg x (.lst xs) O Q) := by first | rfl | (cases x <;> rfl)
theorem dIn_e3 (neg : Bool) {x : _} {xs : _} {O : _} {Q : _} : dIn neg x (.slst xs) O Q = (dInQ neg x (.slst xs) O Q) := by first | rfl | (cases x <;> rfl)
theorem dIn_e4 (neg : Bool) {x : _} {xs : _} {O : _} {Q : _} : dIn neg x (.tup xs) O Q = (dInQ neg x (.tup xs) O Q) := by first | rfl | (cases x <;> rfl)
theorem dIn_e5 (neg : Bool) {x : _} {xs : _} {O : _} {Q : _} : dIn neg x (.stup xs) O Q = (dInQ neg x (.stup xs) O Q) := by first | rfl | (cases x <;> rfl)
theorem dIn_e6 (neg : Bool) {x : _} {xs : _} {O : _} {Q : _} : dIn neg x (.ref xs) O Q = (dInQ neg x (.ref xs) O Q) := by first | rfl | (cases x <;> rfl)
theorem dInK_e1 (K : PySem.W.Frag) (d : Addr) (neg : Bool) {z : _} {a : _} {O : _} {Q : _} : dInK K d neg (.str z) (.ref a) O Q = (a = d ∧ ∃ r, PySem.W.nsIn K d z = some r ∧ Q (.bl (if neg then !r.isSome else r.isSome)) O) := by first | rfl | (cases x <;> rfl)
theorem dIx_e1 {z : _} {i : _} {O : _} {Q : _} : dIx  (.str z) (.int i) O Q = (z.length ≤ sizeLine ∧ onSome (atI (tl z) i) fun c => Q (.str ⟨#[c]⟩) O) := by first | rfl | (cases x <;> rfl)
theorem dIx_e2 {x : _} {i : _} {O : _} {Q : _} : dIx  (.lst x) (.int i) O Q = (dIxQ (.lst x) i O Q) := by first | rfl | (cases x <;> rfl)
theorem dIx_e3 {x : _} {i : _} {O : _} {Q : _} : dIx  (.slst x) (.int i) O Q = (dIxQ (.slst x) i O Q) := by first | rfl | (cases x <;> rfl)
theorem dIx_e4 {x : _} {i : _} {O : _} {Q : _} : dIx  (.tup x) (.int i) O Q = (dIxQ (.tup x) i O Q) := by first | rfl | (cases x <;> rfl)
theorem dIx_e5 {x : _} {i : _} {O : _} {Q : _} : dIx  (.stup x) (.int i) O Q = (dIxQ (.stup x) i O Q) := by first | rfl | (cases x <;> rfl)
theorem dIx_e6 {x : _} {i : _} {O : _} {Q : _} : dIx  (.ref x) (.int i) O Q = (dIxQ (.ref x) i O Q) := by first | rfl | (cases x <;> rfl)
theorem kBl_e1 (Q : Bool → Own → Prop) {b : _} {O : _} : kBl Q (.bl b) O = (Q b O) := by first | rfl | (cases x <;> rfl)
theorem kInt_e1 (Q : Int → Own → Prop) {i : _} {O : _} : kInt Q (.int i) O = (Q i O) := by first | rfl | (cases x <;> rfl)
theorem kTru_e1 (Q : Bool → Own → Prop) {O1 : _} : kTru Q (.non) O1 = (Q false O1) := by first | rfl | (cases x <;> rfl)
theorem kTru_e2 (Q : Bool → Own → Prop) {b : _} {O1 : _} : kTru Q (.bl b) O1 = (Q b O1) := by first | rfl | (cases x <;> rfl)
theorem kTru_e3 (Q : Bool → Own → Prop) {i : _} {O1 : _} : kTru Q (.int i) O1 = (Q (i != 0) O1) := by first | rfl | (cases x <;> rfl)
theorem kTru_e4 (Q : Bool → Own → Prop) {y : _} {O1 : _} : kTru Q (.str y) O1 = (y.length ≤ sizeLine ∧ Q ((y.length : Int) != 0) O1) := by first | rfl | (cases x <;> rfl)
theorem kTru_e5 (Q : Bool → Own → Prop) {xs : _} {O1 : _} : kTru Q (.lst xs) O1 = (Q (!xs.isEmpty) O1) := by first | rfl | (cases x <;> rfl)
theorem kTru_e6 (Q : Bool → Own → Prop) {xs : _} {O1 : _} : kTru Q (.slst xs) O1 = (Q (!xs.isEmpty) O1) := by first | rfl | (cases x <;> rfl)
theorem kTru_e7 (Q : Bool → Own → Prop) {xs : _} {O1 : _} : kTru Q (.tup xs) O1 = (Q (!xs.isEmpty) O1) := by first | rfl | (cases x <;> rfl)
theorem kTru_e8 (Q : Bool → Own → Prop) {xs : _} {O1 : _} : kTru Q (.stup xs) O1 = (Q (!xs.isEmpty) O1) := by first | rfl | (cases x <;> rfl)
theorem kTru_e9 (Q : Bool → Own → Prop) {a : _} {O1 : _} : kTru Q (.ref a) O1 = (onL (O1 a) fun xs => Q (!xs.isEmpty) O1) := by first | rfl | (cases x <;> rfl)
theorem kRef_e1 (Q : Addr → Own → Prop) {a : _} {O : _} : kRef Q (.ref a) O = (Q a O) := by first | rfl | (cases x <;> rfl)
theorem kLst_e1 (Q : List DV → Own → Prop) {xs : _} {O' : _} : kLst Q (.lst xs) O' = (Q xs O') := by first | rfl | (cases x <;> rfl)
theorem kLst_e2 (Q : List DV → Own → Prop) {xs : _} {O' : _} : kLst Q (.slst xs) O' = (Q xs O') := by first | rfl | (cases x <;> rfl)
theorem kTup_e1 (Q : List DV → Own → Prop) {xs : _} {O' : _} : kTup Q (.tup xs) O' = (Q xs O') := by first | rfl | (cases x <;> rfl)
theorem kTup_e2 (Q : List DV → Own → Prop) {xs : _} {O' : _} : kTup Q (.stup xs) O' = (Q xs O') := by first | rfl | (cases x <;> rfl)
theorem kStr_e1 (Q : Str → Own → Prop) {x : _} {O' : _} : kStr Q (.str x) O' = (Q x O') := by first | rfl | (cases x <;> rfl)
theorem kRng1_e1 (Q : List DV → Own → Prop) {j : _} {O' : _} : kRng1 Q [.int j] O' = ((-(2 ^ 62) ≤ j ∧ j < 2 ^ 62) ∧ Q ((List.range j.toNat).map fun (k : Nat) => .int (k : Int)) O') := by first | rfl | (cases x <;> rfl)
theorem kRng2_e1 (Q : List DV → Own → Prop) {i : _} {j : _} {O' : _} : kRng2 Q [.int i, .int j] O' = ((-(2 ^ 62) ≤ i ∧ i < 2 ^ 62 ∧ -(2 ^ 62) ≤ j ∧ j < 2 ^ 62) ∧ Q ((List.range (j - i).toNat).map fun (k : Nat) => .int (i + (k : Int))) O') := by first | rfl | (cases x <;> rfl)
theorem kEnum_e1 (Q : List DV → Own → Prop) {xs : _} {O' : _} : kEnum Q [.lst xs] O' = (Q (enumD 0 xs) O') := by first | rfl | (cases x <;> rfl)
theorem kEnum_e2 (Q : List DV → Own → Prop) {xs : _} {O' : _} : kEnum Q [.slst xs] O' = (Q (enumD 0 xs) O') := by first | rfl | (cases x <;> rfl)
theorem kZip_e1 (Q : List DV → Own → Prop) {xs : _} {ys : _} {O' : _} : kZip Q [.lst xs, .lst ys] O' = (Q (zipD xs ys) O') := by first | rfl | (cases x <;> rfl)
theorem frzC_e1 {xs : _} {K : _} : frzC  (some (.lst xs)) K = (K (.lst xs)) := by first | rfl | (cases x <;> rfl)
theorem frzC_e2 {xs : _} {K : _} : frzC  (some (.dK xs)) K = (K (.dK xs)) := by first | rfl | (cases x <;> rfl)
theorem frzC_e3 {xs : _} {K : _} : frzC  (some (.dT xs)) K = (K (.dT xs)) := by first | rfl | (cases x <;> rfl)
theorem dSlR_e1 {z : _} {lo : _} {hi : _} {O : _} {Q : _} : dSlR  (.str z) lo hi O Q = (z.length ≤ sizeLine ∧ Q (.str (cutS z lo hi)) O) := by first | rfl | (cases x <;> rfl)
theorem dSlR_e2 {xs : _} {lo : _} {hi : _} {O : _} {Q : _} : dSlR  (.tup xs) lo hi O Q = (Q (.tup (cutD xs lo hi)) O) := by first | rfl | (cases x <;> rfl)
theorem dSlR_e3 {xs : _} {lo : _} {hi : _} {O : _} {Q : _} : dSlR  (.lst xs) lo hi O Q = (Q (.lst (cutD xs lo hi)) O) := by first | rfl | (cases x <;> rfl)
theorem dSlR_e4 {xs : _} {lo : _} {hi : _} {O : _} {Q : _} : dSlR  (.slst xs) lo hi O Q = (Q (.lst (cutD xs lo hi)) O) := by first | rfl | (cases x <;> rfl)
theorem dSlR_e5 {a : _} {lo : _} {hi : _} {O : _} {Q : _} : dSlR  (.ref a) lo hi O Q = (onL (O a) fun xs => Q (.lst (cutD xs lo hi)) O) := by first | rfl | (cases x <;> rfl)
theorem dLen_e1 {y : _} {O : _} {Q : _} : dLen  [.str y] O Q = (y.length ≤ sizeLine ∧ Q (.int y.length) O) := by first | rfl | (cases x <;> rfl)
theorem dLen_e2 {xs : _} {O : _} {Q : _} : dLen  [.lst xs] O Q = (Q (.int xs.length) O) := by first | rfl | (cases x <;> rfl)
theorem dLen_e3 {xs : _} {O : _} {Q : _} : dLen  [.slst xs] O Q = (Q (.int xs.length) O) := by first | rfl | (cases x <;> rfl)
theorem dLen_e4 {xs : _} {O : _} {Q : _} : dLen  [.tup xs] O Q = (Q (.int xs.length) O) := by first | rfl | (cases x <;> rfl)
theorem dLen_e5 {xs : _} {O : _} {Q : _} : dLen  [.stup xs] O Q = (Q (.int xs.length) O) := by first | rfl | (cases x <;> rfl)
theorem dLen_e6 {a : _} {O : _} {Q : _} : dLen  [.ref a] O Q = (onL (O a) fun xs => Q (.int xs.length) O) := by first | rfl | (cases x <;> rfl)
theorem dInt_e1 {i : _} {O : _} {Q : _} : dInt  [.int i] O Q = (Q (.int i) O) := by first | rfl | (cases x <;> rfl)
theorem dInt_e2 {k : _} {O : _} {Q : _} : dInt  [.bl k] O Q = (Q (.int (if k then 1 else 0)) O) := by first | rfl | (cases x <;> rfl)
theorem dInt_e3 {a : _} {O : _} {Q : _} : dInt  [.str a] O Q = (∃ n, PySem.intText? a = some n ∧ a.length ≤ 640 ∧ Q (.int n) O) := by first | rfl | (cases x <;> rfl)
theorem dStrI_e1 {i : _} {O : _} {Q : _} : dStrI  [.int i] O Q = (i.natAbs.log2 < 1920 ∧ Q (.str (toString i)) O) := by first | rfl | (cases x <;> rfl)
theorem dIsi_e1 {d : _} {b : _} {O : _} {Q : _} : dIsi  [d, .ty b] O Q = (onSome (tyName O d) fun a => b ∈ ["int", "str", "bool", "list", "tuple", "dict"] ∧ Q (.bl (subTy a b)) O) := by first | rfl | (cases x <;> rfl)
theorem tyName_e1 (O : Own) : tyName O (.non) = (some "NoneType") := by first | rfl | (cases x <;> rfl)
theorem tyName_e2 (O : Own) {u1 : _} : tyName O (.bl u1) = (some "bool") := by first | rfl | (cases x <;> rfl)
theorem tyName_e3 (O : Own) {u1 : _} : tyName O (.int u1) = (some "int") := by first | rfl | (cases x <;> rfl)
theorem tyName_e4 (O : Own) {u1 : _} : tyName O (.str u1) = (some "str") := by first | rfl | (cases x <;> rfl)
theorem tyName_e5 (O : Own) {u1 : _} : tyName O (.tup u1) = (some "tuple") := by first | rfl | (cases x <;> rfl)
theorem tyName_e6 (O : Own) {u1 : _} : tyName O (.stup u1) = (some "tuple") := by first | rfl | (cases x <;> rfl)
theorem tyName_e7 (O : Own) {u1 : _} : tyName O (.lst u1) = (some "list") := by first | rfl | (cases x <;> rfl)
theorem tyName_e8 (O : Own) {u1 : _} : tyName O (.slst u1) = (some "list") := by first | rfl | (cases x <;> rfl)
theorem tyName_e9 (O : Own) {u1 : _} : tyName O (.dK u1) = (some "dict") := by first | rfl | (cases x <;> rfl)
theorem tyName_e10 (O : Own) {a : _} : tyName O (.ref a) = (match O a with
    | some (.lst _) => some "list"
    | some (.dK _) => some "dict"
    | some (.dT _) => some "dict"
    | _ => none) := by first | rfl | (cases x <;> rfl)
theorem dApp_e1 {a : _} {y : _} {O : _} {Q : _} : dApp  (.ref a) [y] O Q = (onL (O a) fun xs => xs.length < sizeLine ∧ Q .non (oset O a (.lst (xs ++ [y])))) := by first | rfl | (cases x <;> rfl)
theorem dJoin_e1 {a : _} {d : _} {O : _} {Q : _} : dJoin  (.str a) [d] O Q = (seqQ O d fun xs => onSome (strsOf xs) fun ys => (ys.map (·.length)).sum + ys.length * a.length ≤ 16777216 ∧ Q (.str (Txt.join a ys)) O) := by first | rfl | (cases x <;> rfl)
theorem dSplit_e1 {a : _} {b : _} {O : _} {Q : _} : dSplit  (.str a) [.str b] O Q = ((b.length == 0) = false ∧ a.length + 2 ≤ sizeLine ∧ Q (.lst ((Txt.split a b).map DV.str)) O) := by first | rfl | (cases x <;> rfl)
theorem dgNil_e1 {S : _} {O : _} {Q : _} : dgNil  [] S O Q = (Q S O) := by first | rfl | (cases x <;> rfl)
theorem dgCons_e1 (g : DTG) (u : DTGs) {d : _} {r : _} {S : _} {O : _} {Q : _} : dgCons g u (d :: r) S O Q = (g d S O fun S' O' => u r S' O' Q) := by first | rfl | (cases x <;> rfl)
theorem dgTup_e1 (n : Nat) (t : DTGs) {ds : _} {S : _} {O : _} {Q : _} : dgTup n t (.tup ds) S O Q = (ds.length = n ∧ t ds S O Q) := by first | rfl | (cases x <;> rfl)
theorem dSetL_e1 {a : _} {k : _} {v : _} {O : _} {Q : _} : dSetL  (.ref a) (.int k) v O Q = (onL (O a) fun xs => onSome (ixN xs.length k) fun j => Q (oset O a (.lst (xs.set j v)))) := by first | rfl | (cases x <;> rfl)
theorem dSetD_e1 {a : _} {z : _} {v : _} {O : _} {Q : _} : dSetD  (.ref a) (.str z) v O Q = (onK (O a) fun es => es.length < 16000000 ∧ Q (oset O a (.dK (dput es (.inr z) v)))) := by first | rfl | (cases x <;> rfl)
theorem dSetD_e2 {a : _} {z : _} {v : _} {O : _} {Q : _} : dSetD  (.ref a) (.int z) v O Q = (onK (O a) fun es => es.length < 16000000 ∧ Q (oset O a (.dK (dput es (.inl z) v)))) := by first | rfl | (cases x <;> rfl)
theorem dSetD_e3 {a : _} {ds : _} {v : _} {O : _} {Q : _} : dSetD  (.ref a) (.tup ds) v O Q = (onT (O a) fun es => onSome (keysD ds) fun k => es.length < 16000000 ∧ Q (oset O a (.dT (dput es k v)))) := by first | rfl | (cases x <;> rfl)
theorem dIAdd_e1 {i : _} {j : _} {O : _} {Q : _} : dIAdd  (.int i) (.int j) O Q = (Q (.int (i + j)) O) := by first | rfl | (cases x <;> rfl)
theorem dIAdd_e2 {a : _} {b : _} {O : _} {Q : _} : dIAdd  (.str a) (.str b) O Q = (a.length + b.length ≤ sizeLine ∧ Q (.str (a ++ b)) O) := by first | rfl | (cases x <;> rfl)
theorem dISub_e1 {i : _} {j : _} {O : _} {Q : _} : dISub  (.int i) (.int j) O Q = (Q (.int (i - j)) O) := by first | rfl | (cases x <;> rfl)
theorem apart_e1 (a : Addr) {b : _} : apart a (.ref b) = (a ≠ b) := by first | rfl | (cases x <;> rfl)
theorem dUpd_e1 {a : _} {d : _} {O : _} {Q : _} : dUpd  (.ref a) [d] O Q = (onK (O a) fun es => dkQ O d fun em => apart a d ∧ es.length + em.length ≤ 1000000 ∧ Q .non (oset O a (.dK (dmerge es em)))) := by first | rfl | (cases x <;> rfl)
theorem dMulS_e1 {z : _} {n : _} {O : _} {Q : _} : dMulS  (.str z) (.int n) O Q = ((n < 100000 ∧ -100000 < n ∧ z.length < 100) ∧ Q (.str (repS z n)) O) := by first | rfl | (cases x <;> rfl)
theorem dInL_e1 (a : Addr) (xs : List Str) {z : _} {b : _} {O : _} {Q : _} : dInL a xs (.str z) (.ref b) O Q = (b = a ∧ Q (.bl (decide (z ∈ xs))) O) := by first | rfl | (cases x <;> rfl)
theorem endLc_e1 {Q : _} {acc : _} {O : _} : endLc  false Q acc O = (Q (.lst acc) O) := by first | rfl | (cases x <;> rfl)
theorem endLc_e2 {Q : _} {acc : _} {O : _} : endLc  true Q acc O = (∀ p, O p = none → Q (.ref p) (oset O p (.lst acc))) := by first | rfl | (cases x <;> rfl)
theorem bindN_e1 (is : List Nat) {ds : _} {S : _} : bindN is (.tup ds) S = (setAll S is ds) := by first | rfl | (cases x <;> rfl)
theorem setAll_e1 {S : _} : setAll  S [] [] = (some S) := by first | rfl | (cases x <;> rfl)
theorem setAll_e2 {S : _} {i : _} {is : _} {d : _} {ds : _} : setAll  S (i :: is) (d :: ds) = (setAll (S.set i (some d)) is ds) := by first | rfl | (cases x <;> rfl)
theorem mTy_e1 (O : Own) {u1 : _} : mTy O (.str u1) = (some "str") := by first | rfl | (cases x <;> rfl)
theorem mTy_e2 (O : Own) {u1 : _} : mTy O (.lst u1) = (some "list") := by first | rfl | (cases x <;> rfl)
theorem mTy_e3 (O : Own) {u1 : _} : mTy O (.slst u1) = (some "list") := by first | rfl | (cases x <;> rfl)
theorem mTy_e4 (O : Own) {a : _} : mTy O (.ref a) = (match O a with
    | some (.lst _) => some "list"
    | some (.dK _) => some "dict"
    | some (.dT _) => some "dict"
    | _ => none) := by first | rfl | (cases x <;> rfl)
theorem strsOf_e1 : strsOf  [] = (some []) := by first | rfl | (cases x <;> rfl)
theorem strsOf_e2 {x : _} {r : _} : strsOf  (.str x :: r) = (match strsOf r with
    | some ys => some (x :: ys)
    | none => none) := by first | rfl | (cases x <;> rfl)
theorem keyD_e1 {x : _} : keyD  (.str x) = (some (.inr x)) := by first | rfl | (cases x <;> rfl)
theorem keyD_e2 {i : _} : keyD  (.int i) = (some (.inl i)) := by first | rfl | (cases x <;> rfl)
theorem keysD_e1 : keysD  [] = (some []) := by first | rfl | (cases x <;> rfl)
theorem keysD_e2 {d : _} {r : _} : keysD  (d :: r) = (match keyD d, keysD r with
    | some k, some ks => some (k :: ks)
    | _, _ => none) := by first | rfl | (cases x <;> rfl)
theorem forW_e1 (g : DTG) (tb : DTS) (D : DEnds) {S : _} {O : _} : forW g tb D [] S O = (D.nx S O) := by first | rfl | (cases x <;> rfl)
theorem forW_e2 (g : DTG) (tb : DTS) (D : DEnds) {x : _} {r : _} {S : _} {O : _} : forW g tb D (x :: r) S O = (g x S O fun S2 O2 => tb { D with nx := forW g tb D r, ct := forW g tb D r, bk := D.nx } S2 O2) := by first | rfl | (cases x <;> rfl)
theorem lcW_e1 (ow : Bool) (b : DV → DSt → Option DSt) (tt : DTT) (te : DTE) (S : DSt) (Q : DVK) {acc : _} {O : _} : lcW ow b tt te S Q [] acc O = (endLc ow Q acc O) := by first | rfl | (cases x <;> rfl)
theorem lcW_e2 (ow : Bool) (b : DV → DSt → Option DSt) (tt : DTT) (te : DTE) (S : DSt) (Q : DVK) {x : _} {r : _} {acc : _} {O : _} : lcW ow b tt te S Q (x :: r) acc O = (onSome (b x S) fun S2 => tt S2 O fun c O2 => if c = true then te S2 O2 fun y O3 => acc.length < 16000000 ∧ lcW ow b tt te S Q r (acc ++ [y]) O3 else lcW ow b tt te S Q r acc O2) := by first | rfl | (cases x <;> rfl)
theorem lcG_e1 (b : DV → DSt → Option DSt) (tt : DTT) (te : DTE) (S : DSt) (R : List DV → Own → Prop) {acc : _} {O : _} : lcG b tt te S R [] acc O = (R acc O) := by first | rfl | (cases x <;> rfl)
theorem lcG_e2 (b : DV → DSt → Option DSt) (tt : DTT) (te : DTE) (S : DSt) (R : List DV → Own → Prop) {x : _} {r : _} {acc : _} {O : _} : lcG b tt te S R (x :: r) acc O = (onSome (b x S) fun S2 => tt S2 O fun c O2 => if c = true then te S2 O2 fun y O3 => acc.length < 16000000 ∧ lcG b tt te S R r (acc ++ [y]) O3 else lcG b tt te S R r acc O2) := by first | rfl | (cases x <;> rfl)
theorem lc2W_e1 (ow : Bool) (b : DV → DSt → Option DSt) (tt : DTT) (di1 : DTI) (b1 : DV → DSt → Option DSt) (tt1 : DTT) (te : DTE) (vs1 : List Nat) (S : DSt) (Q : DVK) {acc : _} {O : _} : lc2W ow b tt di1 b1 tt1 te vs1 S Q [] acc O = (endLc ow Q acc O) := by first | rfl | (cases x <;> rfl)
theorem lc2W_e2 (ow : Bool) (b : DV → DSt → Option DSt) (tt : DTT) (di1 : DTI) (b1 : DV → DSt → Option DSt) (tt1 : DTT) (te : DTE) (vs1 : List Nat) (S : DSt) (Q : DVK) {x : _} {r : _} {acc : _} {O : _} : lc2W ow b tt di1 b1 tt1 te vs1 S Q (x :: r) acc O = (onSome (b x S) fun S2 => tt S2 O fun c O2 => if c = true then di1 S2 O2 fun ds1 O3 => lcG b1 tt1 te (dwipe S2 vs1) (lc2W ow b tt di1 b1 tt1 te vs1 S Q r) ds1 acc O3 else lc2W ow b tt di1 b1 tt1 te vs1 S Q r acc O2) := by first | rfl | (cases x <;> rfl)
theorem dPairs_e1 {u1 : _} {O : _} {Q : _} : dPairs  [] u1 O Q = (Q [] O) := by first | rfl | (cases x <;> rfl)
theorem dPairs_e2 {tk : _} {tv : _} {r : _} {S : _} {O : _} {Q : _} : dPairs  ((tk, tv) :: r) S O Q = (tk S O fun x O1 => tv S O1 fun y O2 => dPairs r S O2 fun ps O3 => Q ((x, y) :: ps) O3) := by first | rfl | (cases x <;> rfl)
theorem kvsOf_e1 : kvsOf  [] = (some []) := by first | rfl | (cases x <;> rfl)
theorem kvsOf_e2 {k : _} {v : _} {r : _} : kvsOf  ((k, v) :: r) = (match keyD k, kvsOf r with
    | some k', some r' => some ((k', v) :: r')
    | _, _ => none) := by first | rfl | (cases x <;> rfl)
theorem slot_e1 {x : _} {u1 : _} : slot  (x :: u1) 0 = (x) := by first | rfl | (cases x <;> rfl)
theorem slot_e2 {u1 : _} {r : _} {n : _} : slot  (u1 :: r) (n + 1) = (slot r n) := by first | rfl | (cases x <;> rfl)
theorem dwipe_e1 (S : DSt) : dwipe S [] = (S) := by first | rfl | (cases x <;> rfl)
theorem dwipe_e2 (S : DSt) {v : _} {vs : _} : dwipe S (v :: vs) = ((dwipe S vs).set v none) := by first | rfl | (cases x <;> rfl)
theorem enumD_e1 {u1 : _} : enumD  u1 [] = ([]) := by first | rfl | (cases x <;> rfl)
theorem enumD_e2 {n : _} {x : _} {r : _} : enumD  n (x :: r) = (.tup [.int (n : Int), x] :: enumD (n + 1) r) := by first | rfl | (cases x <;> rfl)
theorem zipD_e1 {x : _} {r : _} {y : _} {q : _} : zipD  (x :: r) (y :: q) = (.tup [x, y] :: zipD r q) := by first | rfl | (cases x <;> rfl)
theorem dstart_e1 {u1 : _} : dstart  0 u1 = ([]) := by first | rfl | (cases x <;> rfl)
theorem dstart_e2 {n : _} : dstart  (n + 1) [] = (none :: dstart n []) := by first | rfl | (cases x <;> rfl)
theorem dstart_e3 {n : _} {d : _} {ds : _} : dstart  (n + 1) (d :: ds) = (some d :: dstart n ds) := by first | rfl | (cases x <;> rfl)
theorem flatD_e1 : flatD  (.non) = (true) := by first | rfl | (cases x <;> rfl)
theorem flatD_e2 {u1 : _} : flatD  (.bl u1) = (true) := by first | rfl | (cases x <;> rfl)
theorem flatD_e3 {u1 : _} : flatD  (.int u1) = (true) := by first | rfl | (cases x <;> rfl)
theorem flatD_e4 {u1 : _} : flatD  (.str u1) = (true) := by first | rfl | (cases x <;> rfl)
theorem eqF_e1 : eqF  (.non) (.non) = (true) := by first | rfl | (cases x <;> rfl)
theorem eqF_e2 {a : _} {b : _} : eqF  (.bl a) (.bl b) = (a == b) := by first | rfl | (cases x <;> rfl)
theorem eqF_e3 {a : _} {b : _} : eqF  (.bl a) (.int b) = ((if a then 1 else 0) == b) := by first | rfl | (cases x <;> rfl)
theorem eqF_e4 {a : _} {b : _} : eqF  (.int a) (.bl b) = (a == (if b then 1 else 0)) := by first | rfl | (cases x <;> rfl)
theorem eqF_e5 {a : _} {b : _} : eqF  (.int a) (.int b) = (a == b) := by first | rfl | (cases x <;> rfl)
theorem eqF_e6 {a : _} {b : _} : eqF  (.str a) (.str b) = (a == b) := by first | rfl | (cases x <;> rfl)
theorem dTupOf_e1 {xs : _} {O : _} {Q : _} : dTupOf  [.lst xs] O Q = (Q (.tup xs) O) := by first | rfl | (cases x <;> rfl)
theorem dTupOf_e2 {xs : _} {O : _} {Q : _} : dTupOf  [.tup xs] O Q = (Q (.tup xs) O) := by first | rfl | (cases x <;> rfl)
theorem dTupOf_e3 {a : _} {O : _} {Q : _} : dTupOf  [.ref a] O Q = (onL (O a) fun xs => Q (.tup xs) O) := by first | rfl | (cases x <;> rfl)
theorem dListOf_e1 {d : _} {O : _} {Q : _} : dListOf  [d] O Q = (seqQ O d fun xs => ∀ p, O p = none → Q (.ref p) (oset O p (.lst xs))) := by first | rfl | (cases x <;> rfl)
theorem dMin2_e1 {i : _} {j : _} {O : _} {Q : _} : dMin2  [.int i, .int j] O Q = (Q (.int (if j < i then j else i)) O) := by first | rfl | (cases x <;> rfl)
theorem dExt_e1 {a : _} {d : _} {O : _} {Q : _} : dExt  (.ref a) [d] O Q = (onL (O a) fun xs => lstQ O d fun zs => xs.length + zs.length ≤ sizeLine ∧ Q .non (oset O a (.lst (xs ++ zs)))) := by first | rfl | (cases x <;> rfl)
theorem dMulL_e1 {d : _} {k : _} {O : _} {Q : _} : dMulL  d (.int k) O Q = (lstQ O d fun xs => -(2 ^ 63) ≤ k ∧ k < 2 ^ 63 ∧ xs.length * k.toNat ≤ sizeLine ∧ Q (.lst (List.replicate k.toNat xs).flatten) O) := by first | rfl | (cases x <;> rfl)
theorem dIsD_e1 (O : Own) {u1 : _} : dIsD O (.dK u1) = (True) := by first | rfl | (cases x <;> rfl)
theorem dIsD_e2 (O : Own) {u1 : _} : dIsD O (.dT u1) = (True) := by first | rfl | (cases x <;> rfl)
theorem dIsD_e3 (O : Own) {a : _} : dIsD O (.ref a) = (match O a with
    | some (.dK _) => True
    | some (.dT _) => True
    | _ => False) := by first | rfl | (cases x <;> rfl)
theorem dSortD_e1 {d : _} {O : _} {Q : _} : dSortD  [d] O Q = (dkQ O d fun es => ∃ ks : List Str, es.map (·.1) = ks.map Sum.inr ∧ ks.length < 64 ∧ ∀ ys : List Str, ys.Perm ks → Q (.lst (ys.map DV.str)) O) := by first | rfl | (cases x <;> rfl)
theorem kStr1_e1 (Q : Str → Own → Prop) {k : _} {O : _} : kStr1 Q (.str k) O = (Q k O) := by first | rfl | (cases x <;> rfl)
theorem klook_e1 {x : _} {xs : _} {z : _} : klook  (x :: xs) z = (if x.1 = z then some x.2 else klook xs z) := by first | rfl | (cases x <;> rfl)
end DL

set_option Elab.async false
set_option linter.all false
set_option maxRecDepth 100000
set_option autoImplicit true
namespace DL
open PySem PySem.Spec PyProof.Rows L2 TL
theorem dVar_n0 {x : DV} {r : DSt} {O : Own} {Q : DVK} : dVar 0 (some x :: r) O Q = Q x O := rfl
theorem dgName_n0 {x : DV} {y : Option DV} {r : DSt} {O : Own} {Q : DSt → Own → Prop} : dgName 0 x (y :: r) O Q = Q (some x :: r) O := rfl
theorem obind_n0 {x : DV} {y : Option DV} {r : DSt} {K : DSt → Prop} : onSome (bind1 0 x (y :: r)) K = K (some x :: r) := rfl
theorem oslot_n0 {x : DV} {r : DSt} {K : DV → Prop} : onSome (slot (some x :: r) 0) K = K x := rfl
theorem dVar_n1 {a0 : Option DV} {x : DV} {r : DSt} {O : Own} {Q : DVK} : dVar 1 (a0 :: some x :: r) O Q = Q x O := rfl
theorem dgName_n1 {a0 : Option DV} {x : DV} {y : Option DV} {r : DSt} {O : Own} {Q : DSt → Own → Prop} : dgName 1 x (a0 :: y :: r) O Q = Q (a0 :: some x :: r) O := rfl
theorem obind_n1 {a0 : Option DV} {x : DV} {y : Option DV} {r : DSt} {K : DSt → Prop} : onSome (bind1 1 x (a0 :: y :: r)) K = K (a0 :: some x :: r) := rfl
theorem oslot_n1 {a0 : Option DV} {x : DV} {r : DSt} {K : DV → Prop} : onSome (slot (a0 :: some x :: r) 1) K = K x := rfl
theorem dVar_n2 {a0 : Option DV} {a1 : Option DV} {x : DV} {r : DSt} {O : Own} {Q : DVK} : dVar 2 (a0 :: a1 :: some x :: r) O Q = Q x O := rfl
theorem dgName_n2 {a0 : Option DV} {a1 : Option DV} {x : DV} {y : Option DV} {r : DSt} {O : Own} {Q : DSt → Own → Prop} : dgName 2 x (a0 :: a1 :: y :: r) O Q = Q (a0 :: a1 :: some x :: r) O := rfl
theorem obind_n2 {a0 : Option DV} {a1 : Option DV} {x : DV} {y : Option DV} {r : DSt} {K : DSt → Prop} : onSome (bind1 2 x (a0 :: a1 :: y :: r)) K = K (a0 :: a1 :: some x :: r) := rfl
theorem oslot_n2 {a0 : Option DV} {a1 : Option DV} {x : DV} {r : DSt} {K : DV → Prop} : onSome (slot (a0 :: a1 :: some x :: r) 2) K = K x := rfl
theorem dVar_n3 {a0 : Option DV} {a1 : Option DV} {a2 : Option DV} {x : DV} {r : DSt} {O : Own} {Q : DVK} : dVar 3 (a0 :: a1 :: a2 :: some x :: r) O Q = Q x O := rfl
theorem dgName_n3 {a0 : Option DV} {a1 : Option DV} {a2 : Option DV} {x : DV} {y : Option DV} {r : DSt} {O : Own} {Q : DSt → Own → Prop} : dgName 3 x (a0 :: a1 :: a2 :: y :: r) O Q = Q (a0 :: a1 :: a2 :: some x :: r) O := rfl
theorem obind_n3 {a0 : Option DV} {a1 : Option DV} {a2 : Option DV} {x : DV} {y : Option DV} {r : DSt} {K : DSt → Prop} : onSome (bind1 3 x (a0 :: a1 :: a2 :: y :: r)) K = K (a0 :: a1 :: a2 :: some x :: r) := rfl
theorem oslot_n3 {a0 : Option DV} {a1 : Option DV} {a2 : Option DV} {x : DV} {r : DSt} {K : DV → Prop} : onSome (slot (a0 :: a1 :: a2 :: some x :: r) 3) K = K x := rfl
theorem dVar_n4 {a0 : Option DV} {a1 : Option DV} {a2 : Option DV} {a3 : Option DV} {x : DV} {r : DSt} {O : Own} {Q : DVK} : dVar 4 (a0 :: a1 :: a2 :: a3 :: some x :: r) O Q = Q x O := rfl
theorem dgName_n4 {a0 : Option DV} {a1 : Option DV} {a2 : Option DV} {a3 : Option DV} {x : DV} {y : Option DV} {r : DSt} {O : Own} {Q : DSt → Own → Prop} : dgName 4 x (a0 :: a1 :: a2 :: a3 :: y :: r) O Q = Q (a0 :: a1 :: a2 :: a3 :: some x :: r) O := rfl
theorem obind_n4 {a0 : Option DV} {a1 : Option DV} {a2 : Option DV} {a3 : Option DV} {x : DV} {y : Option DV} {r : DSt} {K : DSt → Prop} : onSome (bind1 4 x (a0 :: a1 :: a2 :: a3 :: y :: r)) K = K (a0 :: a1 :: a2 :: a3 :: some x :: r) := rfl
theorem oslot_n4 {a0 : Option DV} {a1 : Option DV} {a2 : Option DV} {a3 : Option DV} {x : DV} {r : DSt} {K : DV → Prop} : onSome (slot (a0 :: a1 :: a2 :: a3 :: some x :: r) 4) K = K x := rfl
theorem dVar_n5 {a0 : Option DV} {a1 : Option DV} {a2 : Option DV} {a3 : Option DV} {a4 : Option DV} {x : DV} {r : DSt} {O : Own} {Q : DVK} : dVar 5 (a0 :: a1 :: a2 :: a3 :: a4 :: some x :: r) O Q = Q x O := rfl
theorem dgName_n5 {a0 : Option DV} {a1 : Option DV} {a2 : Option DV} {a3 : Option DV} {a4 : Option DV} {x : DV} {y : Option DV} {r : DSt} {O : Own} {Q : DSt → Own → Prop} : dgName 5 x (a0 :: a1 :: a2 :: a3 :: a4 :: y :: r) O Q = Q (a0 :: a1 :: a2 :: a3 :: a4 :: some x :: r) O := rfl
theorem obind_n5 {a0 : Option DV} {a1 : Option DV} {a2 : Option DV} {a3 : Option DV} {a4 : Option DV} {x : DV} {y : Option DV} {r : DSt} {K : DSt → Prop} : onSome (bind1 5 x (a0 :: a1 :: a2 :: a3 :: a4 :: y :: r)) K = K (a0 :: a1 :: a2 :: a3 :: a4 :: some x :: r) := rfl
theorem oslot_n5 {a0 : Option DV} {a1 : Option DV} {a2 : Option DV} {a3 : Option DV} {a4 : Option DV} {x : DV} {r : DSt} {K : DV → Prop} : onSome (slot (a0 :: a1 :: a2 :: a3 :: a4 :: some x :: r) 5) K = K x := rfl
theorem dVar_n6 {a0 : Option DV} {a1 : Option DV} {a2 : Option DV} {a3 : Option DV} {a4 : Option DV} {a5 : Option DV} {x : DV} {r : DSt} {O : Own} {Q : DVK} : dVar 6 (a0 :: a1 :: a2 :: a3 :: a4 :: a5 :: some x :: r) O Q = Q x O := rfl
theorem dgName_n6 {a0 : Option DV} {a1 : Option DV} {a2 : Option DV} {a3 : Option DV} {a4 : Option DV} {a5 : Option DV} {x : DV} {y : Option DV} {r : DSt} {O : Own} {Q : DSt → Own → Prop} : dgName 6 x (a0 :: a1 :: a2 :: a3 :: a4 :: a5 :: y :: r) O Q = Q (a0 :: a1 :: a2 :: a3 :: a4 :: a5 :: some x :: r) O := rfl
theorem obind_n6 {a0 : Option DV} {a1 : Option DV} {a2 : Option DV} {a3 : Option DV} {a4 : Option DV} {a5 : Option DV} {x : DV} {y : Option DV} {r : DSt} {K : DSt → Prop} : onSome (bind1 6 x (a0 :: a1 :: a2 :: a3 :: a4 :: a5 :: y :: r)) K = K (a0 :: a1 :: a2 :: a3 :: a4 :: a5 :: some x :: r) := rfl
theorem oslot_n6 {a0 : Option DV} {a1 : Option DV} {a2 : Option DV} {a3 : Option DV} {a4 : Option DV} {a5 : Option DV} {x : DV} {r : DSt} {K : DV → Prop} : onSome (slot (a0 :: a1 :: a2 :: a3 :: a4 :: a5 :: some x :: r) 6) K = K x := rfl
theorem dVar_n7 {a0 : Option DV} {a1 : Option DV} {a2 : Option DV} {a3 : Option DV} {a4 : Option DV} {a5 : Option DV} {a6 : Option DV} {x : DV} {r : DSt} {O : Own} {Q : DVK} : dVar 7 (a0 :: a1 :: a2 :: a3 :: a4 :: a5 :: a6 :: some x :: r) O Q = Q x O := rfl
theorem dgName_n7 {a0 : Option DV} {a1 : Option DV} {a2 : Option DV} {a3 : Option DV} {a4 : Option DV} {a5 : Option DV} {a6 : Option DV} {x : DV} {y : Option DV} {r : DSt} {O : Own} {Q : DSt → Own → Prop} : dgName 7 x (a0 :: a1 :: a2 :: a3 :: a4 :: a5 :: a6 :: y :: r) O Q = Q (a0 :: a1 :: a2 :: a3 :: a4 :: a5 :: a6 :: some x :: r) O := rfl
theorem obind_n7 {a0 : Option DV} {a1 : Option DV} {a2 : Option DV} {a3 : Option DV} {a4 : Option DV} {a5 : Option DV} {a6 : Option DV} {x : DV} {y : Option DV} {r : DSt} {K : DSt → Prop} : onSome (bind1 7 x (a0 :: a1 :: a2 :: a3 :: a4 :: a5 :: a6 :: y :: r)) K = K (a0 :: a1 :: a2 :: a3 :: a4 :: a5 :: a6 :: some x :: r) := rfl
theorem oslot_n7 {a0 : Option DV} {a1 : Option DV} {a2 : Option DV} {a3 : Option DV} {a4 : Option DV} {a5 : Option DV} {a6 : Option DV} {x : DV} {r : DSt} {K : DV → Prop} : onSome (slot (a0 :: a1 :: a2 :: a3 :: a4 :: a5 :: a6 :: some x :: r) 7) K = K x := rfl
theorem dVar_n8 {a0 : Option DV} {a1 : Option DV} {a2 : Option DV} {a3 : Option DV} {a4 : Option DV} {a5 : Option DV} {a6 : Option DV} {a7 : Option DV} {x : DV} {r : DSt} {O : Own} {Q : DVK} : dVar 8 (a0 :: a1 :: a2 :: a3 :: a4 :: a5 :: a6 :: a7 :: some x :: r) O Q = Q x O := rfl
theorem dgName_n8 {a0 : Option DV} {a1 : Option DV} {a2 : Option DV} {a3 : Option DV} {a4 : Option DV} {a5 : Option DV} {a6 : Option DV} {a7 : Option DV} {x : DV} {y : Option DV} {r : DSt} {O : Own} {Q : DSt → Own → Prop} : dgName 8 x (a0 :: a1 :: a2 :: a3 :: a4 :: a5 :: a6 :: a7 :: y :: r) O Q = Q (a0 :: a1 :: a2 :: a3 :: a4 :: a5 :: a6 :: a7 :: some x :: r) O := rfl
theorem obind_n8 {a0 : Option DV} {a1 : Option DV} {a2 : Option DV} {a3 : Option DV} {a4 : Option DV} {a5 : Option DV} {a6 : Option DV} {a7 : Option DV} {x : DV} {y : Option DV} {r : DSt} {K : DSt → Prop} : onSome (bind1 8 x (a0 :: a1 :: a2 :: a3 :: a4 :: a5 :: a6 :: a7 :: y :: r)) K = K (a0 :: a1 :: a2 :: a3 :: a4 :: a5 :: a6 :: a7 :: some x :: r) := rfl
theorem oslot_n8 {a0 : Option DV} {a1 : Option DV} {a2 : Option DV} {a3 : Option DV} {a4 : Option DV} {a5 : Option DV} {a6 : Option DV} {a7 : Option DV} {x : DV} {r : DSt} {K : DV → Prop} : onSome (slot (a0 :: a1 :: a2 :: a3 :: a4 :: a5 :: a6 :: a7 :: some x :: r) 8) K = K x := rfl
theorem dVar_n9 {a0 : Option DV} {a1 : Option DV} {a2 : Option DV} {a3 : Option DV} {a4 : Option DV} {a5 : Option DV} {a6 : Option DV} {a7 : Option DV} {a8 : Option DV} {x : DV} {r : DSt} {O : Own} {Q : DVK} : dVar 9 (a0 :: a1 :: a2 :: a3 :: a4 :: a5 :: a6 :: a7 :: a8 :: some x :: r) O Q = Q x O := rfl
theorem dgName_n9 {a0 : Option DV} {a1 : Option DV} {a2 : Option DV} {a3 : Option DV} {a4 : Option DV} {a5 : Option DV} {a6 : Option DV} {a7 : Option DV} {a8 : Option DV} {x : DV} {y : Option DV} {r : DSt} {O : Own} {Q : DSt → Own → Prop} : dgName 9 x (a0 :: a1 :: a2 :: a3 :: a4 :: a5 :: a6 :: a7 :: a8 :: y :: r) O Q = Q (a0 :: a1 :: a2 :: a3 :: a4 :: a5 :: a6 :: a7 :: a8 :: some x :: r) O := rfl
theorem obind_n9 {a0 : Option DV} {a1 : Option DV} {a2 : Option DV} {a3 : Option DV} {a4 : Option DV} {a5 : Option DV} {a6 : Option DV} {a7 : Option DV} {a8 : Option DV} {x : DV} {y : Option DV} {r : DSt} {K : DSt → Prop} : onSome (bind1 9 x (a0 :: a1 :: a2 :: a3 :: a4 :: a5 :: a6 :: a7 :: a8 :: y :: r)) K = K (a0 :: a1 :: a2 :: a3 :: a4 :: a5 :: a6 :: a7 :: a8 :: some x :: r) := rfl
theorem oslot_n9 {a0 : Option DV} {a1 : Option DV} {a2 : Option DV} {a3 : Option DV} {a4 : Option DV} {a5 : Option DV} {a6 : Option DV} {a7 : Option DV} {a8 : Option DV} {x : DV} {r : DSt} {K : DV → Prop} : onSome (slot (a0 :: a1 :: a2 :: a3 :: a4 :: a5 :: a6 :: a7 :: a8 :: some x :: r) 9) K = K x := rfl
theorem dVar_n10 {a0 : Option DV} {a1 : Option DV} {a2 : Option DV} {a3 : Option DV} {a4 : Option DV} {a5 : Option DV} {a6 : Option DV} {a7 : Option DV} {a8 : Option DV} {a9 : Option DV} {x : DV} {r : DSt} {O : Own} {Q : DVK} : dVar 10 (a0 :: a1 :: a2 :: a3 :: a4 :: a5 :: a6 :: a7 :: a8 :: a9 :: some x :: r) O Q = Q x O := rfl
theorem dgName_n10 {a0 : Option DV} {a1 : Option DV} {a2 : Option DV} {a3 : Option DV} {a4 : Option DV} {a5 : Option DV} {a6 : Option DV} {a7 : Option DV} {a8 : Option DV} {a9 : Option DV} {x : DV} {y : Option DV} {r : DSt} {O : Own} {Q : DSt → Own → Prop} : dgName 10 x (a0 :: a1 :: a2 :: a3 :: a4 :: a5 :: a6 :: a7 :: a8 :: a9 :: y :: r) O Q = Q (a0 :: a1 :: a2 :: a3 :: a4 :: a5 :: a6 :: a7 :: a8 :: a9 :: some x :: r) O := rfl
theorem obind_n10 {a0 : Option DV} {a1 : Option DV} {a2 : Option DV} {a3 : Option DV} {a4 : Option DV} {a5 : Option DV} {a6 : Option DV} {a7 : Option DV} {a8 : Option DV} {a9 : Option DV} {x : DV} {y : Option DV} {r : DSt} {K : DSt → Prop} : onSome (bind1 10 x (a0 :: a1 :: a2 :: a3 :: a4 :: a5 :: a6 :: a7 :: a8 :: a9 :: y :: r)) K = K (a0 :: a1 :: a2 :: a3 :: a4 :: a5 :: a6 :: a7 :: a8 :: a9 :: some x :: r) := rfl
theorem oslot_n10 {a0 : Option DV} {a1 : Option DV} {a2 : Option DV} {a3 : Option DV} {a4 : Option DV} {a5 : Option DV} {a6 : Option DV} {a7 : Option DV} {a8 : Option DV} {a9 : Option DV} {x : DV} {r : DSt} {K : DV → Prop} : onSome (slot (a0 :: a1 :: a2 :: a3 :: a4 :: a5 :: a6 :: a7 :: a8 :: a9 :: some x :: r) 10) K = K x := rfl
theorem dVar_n11 {a0 : Option DV} {a1 : Option DV} {a2 : Option DV} {a3 : Option DV} {a4 : Option DV} {a5 : Option DV} {a6 : Option DV} {a7 : Option DV} {a8 : Option DV} {a9 : Option DV} {a10 : Option DV} {x : DV} {r : DSt} {O : Own} {Q : DVK} : dVar 11 (a0 :: a1 :: a2 :: a3 :: a4 :: a5 :: a6 :: a7 :: a8 :: a9 :: a10 :: some x :: r) O Q = Q x O := rfl
theorem dgName_n11 {a0 : Option DV} {a1 : Option DV} {a2 : Option DV} {a3 : Option DV} {a4 : Option DV} {a5 : Option DV} {a6 : Option DV} {a7 : Option DV} {a8 : Option DV} {a9 : Option DV} {a10 : Option DV} {x : DV} {y : Option DV} {r : DSt} {O : Own} {Q : DSt → Own → Prop} : dgName 11 x (a0 :: a1 :: a2 :: a3 :: a4 :: a5 :: a6 :: a7 :: a8 :: a9 :: a10 :: y :: r) O Q = Q (a0 :: a1 :: a2 :: a3 :: a4 :: a5 :: a6 :: a7 :: a8 :: a9 :: a10 :: some x :: r) O := rfl
theorem obind_n11 {a0 : Option DV} {a1 : Option DV} {a2 : Option DV} {a3 : Option DV} {a4 : Option DV} {a5 : Option DV} {a6 : Option DV} {a7 : Option DV} {a8 : Option DV} {a9 : Option DV} {a10 : Option DV} {x : DV} {y : Option DV} {r : DSt} {K : DSt → Prop} : onSome (bind1 11 x (a0 :: a1 :: a2 :: a3 :: a4 :: a5 :: a6 :: a7 :: a8 :: a9 :: a10 :: y :: r)) K = K (a0 :: a1 :: a2 :: a3 :: a4 :: a5 :: a6 :: a7 :: a8 :: a9 :: a10 :: some x :: r) := rfl
theorem oslot_n11 {a0 : Option DV} {a1 : Option DV} {a2 : Option DV} {a3 : Option DV} {a4 : Option DV} {a5 : Option DV} {a6 : Option DV} {a7 : Option DV} {a8 : Option DV} {a9 : Option DV} {a10 : Option DV} {x : DV} {r : DSt} {K : DV → Prop} : onSome (slot (a0 :: a1 :: a2 :: a3 :: a4 :: a5 :: a6 :: a7 :: a8 :: a9 :: a10 :: some x :: r) 11) K = K x := rfl
theorem dVar_n12 {a0 : Option DV} {a1 : Option DV} {a2 : Option DV} {a3 : Option DV} {a4 : Option DV} {a5 : Option DV} {a6 : Option DV} {a7 : Option DV} {a8 : Option DV} {a9 : Option DV} {a10 : Option DV} {a11 : Option DV} {x : DV} {r : DSt} {O : Own} {Q : DVK} : dVar 12 (a0 :: a1 :: a2 :: a3 :: a4 :: a5 :: a6 :: a7 :: a8 :: a9 :: a10 :: a11 :: some x :: r) O Q = Q x O := rfl
theorem dgName_n12 {a0 : Option DV} {a1 : Option DV} {a2 : Option DV} {a3 : Option DV} {a4 : Option DV} {a5 : Option DV} {a6 : Option DV} {a7 : Option DV} {a8 : Option DV} {a9 : Option DV} {a10 : Option DV} {a11 : Option DV} {x : DV} {y : Option DV} {r : DSt} {O : Own} {Q : DSt → Own → Prop} : dgName 12 x (a0 :: a1 :: a2 :: a3 :: a4 :: a5 :: a6 :: a7 :: a8 :: a9 :: a10 :: a11 :: y :: r) O Q = Q (a0 :: a1 :: a2 :: a3 :: a4 :: a5 :: a6 :: a7 :: a8 :: a9 :: a10 :: a11 :: some x :: r) O := rfl
theorem obind_n12 {a0 : Option DV} {a1 : Option DV} {a2 : Option DV} {a3 : Option DV} {a4 : Option DV} {a5 : Option DV} {a6 : Option DV} {a7 : Option DV} {a8 : Option DV} {a9 : Option DV} {a10 : Option DV} {a11 : Option DV} {x : DV} {y : Option DV} {r : DSt} {K : DSt → Prop} : onSome (bind1 12 x (a0 :: a1 :: a2 :: a3 :: a4 :: a5 :: a6 :: a7 :: a8 :: a9 :: a10 :: a11 :: y :: r)) K = K (a0 :: a1 :: a2 :: a3 :: a4 :: a5 :: a6 :: a7 :: a8 :: a9 :: a10 :: a11 :: some x :: r) := rfl
theorem oslot_n12 {a0 : Option DV} {a1 : Option DV} {a2 : Option DV} {a3 : Option DV} {a4 : Option DV} {a5 : Option DV} {a6 : Option DV} {a7 : Option DV} {a8 : Option DV} {a9 : Option DV} {a10 : Option DV} {a11 : Option DV} {x : DV} {r : DSt} {K : DV → Prop} : onSome (slot (a0 :: a1 :: a2 :: a3 :: a4 :: a5 :: a6 :: a7 :: a8 :: a9 :: a10 :: a11 :: some x :: r) 12) K = K x := rfl
theorem dVar_n13 {a0 : Option DV} {a1 : Option DV} {a2 : Option DV} {a3 : Option DV} {a4 : Option DV} {a5 : Option DV} {a6 : Option DV} {a7 : Option DV} {a8 : Option DV} {a9 : Option DV} {a10 : Option DV} {a11 : Option DV} {a12 : Option DV} {x : DV} {r : DSt} {O : Own} {Q : DVK} : dVar 13 (a0 :: a1 :: a2 :: a3 :: a4 :: a5 :: a6 :: a7 :: a8 :: a9 :: a10 :: a11 :: a12 :: some x :: r) O Q = Q x O := rfl
theorem dgName_n13 {a0 : Option DV} {a1 : Option DV} {a2 : Option DV} {a3 : Option DV} {a4 : Option DV} {a5 : Option DV} {a6 : Option DV} {a7 : Option DV} {a8 : Option DV} {a9 : Option DV} {a10 : Option DV} {a11 : Option DV} {a12 : Option DV} {x : DV} {y : Option DV} {r : DSt} {O : Own} {Q : DSt → Own → Prop} : dgName 13 x (a0 :: a1 :: a2 :: a3 :: a4 :: a5 :: a6 :: a7 :: a8 :: a9 :: a10 :: a11 :: a12 :: y :: r) O Q = Q (a0 :: a1 :: a2 :: a3 :: a4 :: a5 :: a6 :: a7 :: a8 :: a9 :: a10 :: a11 :: a12 :: some x :: r) O := rfl
theorem obind_n13 {a0 : Option DV} {a1 : Option DV} {a2 : Option DV} {a3 : Option DV} {a4 : Option DV} {a5 : Option DV} {a6 : Option DV} {a7 : Option DV} {a8 : Option DV} {a9 : Option DV} {a10 : Option DV} {a11 : Option DV} {a12 : Option DV} {x : DV} {y : Option DV} {r : DSt} {K : DSt → Prop} : onSome (bind1 13 x (a0 :: a1 :: a2 :: a3 :: a4 :: a5 :: a6 :: a7 :: a8 :: a9 :: a10 :: a11 :: a12 :: y :: r)) K = K (a0 :: a1 :: a2 :: a3 :: a4 :: a5 :: a6 :: a7 :: a8 :: a9 :: a10 :: a11 :: a12 :: some x :: r) := rfl
theorem oslot_n13 {a0 : Option DV} {a1 : Option DV} {a2 : Option DV} {a3 : Option DV} {a4 : Option DV} {a5 : Option DV} {a6 : Option DV} {a7 : Option DV} {a8 : Option DV} {a9 : Option DV} {a10 : Option DV} {a11 : Option DV} {a12 : Option DV} {x : DV} {r : DSt} {K : DV → Prop} : onSome (slot (a0 :: a1 :: a2 :: a3 :: a4 :: a5 :: a6 :: a7 :: a8 :: a9 :: a10 :: a11 :: a12 :: some x :: r) 13) K = K x := rfl
theorem dVar_n14 {a0 : Option DV} {a1 : Option DV} {a2 : Option DV} {a3 : Option DV} {a4 : Option DV} {a5 : Option DV} {a6 : Option DV} {a7 : Option DV} {a8 : Option DV} {a9 : Option DV} {a10 : Option DV} {a11 : Option DV} {a12 : Option DV} {a13 : Option DV} {x : DV} {r : DSt} {O : Own} {Q : DVK} : dVar 14 (a0 :: a1 :: a2 :: a3 :: a4 :: a5 :: a6 :: a7 :: a8 :: a9 :: a10 :: a11 :: a12 :: a13 :: some x :: r) O Q = Q x O := rfl
theorem dgName_n14 {a0 : Option DV} {a1 : Option DV} {a2 : Option DV} {a3 : Option DV} {a4 : Option DV} {a5 : Option DV} {a6 : Option DV} {a7 : Option DV} {a8 : Option DV} {a9 : Option DV} {a10 : Option DV} {a11 : Option DV} {a12 : Option DV} {a13 : Option DV} {x : DV} {y : Option DV} {r : DSt} {O : Own} {Q : DSt → Own → Prop} : dgName 14 x (a0 :: a1 :: a2 :: a3 :: a4 :: a5 :: a6 :: a7 :: a8 :: a9 :: a10 :: a11 :: a12 :: a13 :: y :: r) O Q = Q (a0 :: a1 :: a2 :: a3 :: a4 :: a5 :: a6 :: a7 :: a8 :: a9 :: a10 :: a11 :: a12 :: a13 :: some x :: r) O := rfl
theorem obind_n14 {a0 : Option DV} {a1 : Option DV} {a2 : Option DV} {a3 : Option DV} {a4 : Option DV} {a5 : Option DV} {a6 : Option DV} {a7 : Option DV} {a8 : Option DV} {a9 : Option DV} {a10 : Option DV} {a11 : Option DV} {a12 : Option DV} {a13 : Option DV} {x : DV} {y : Option DV} {r : DSt} {K : DSt → Prop} : onSome (bind1 14 x (a0 :: a1 :: a2 :: a3 :: a4 :: a5 :: a6 :: a7 :: a8 :: a9 :: a10 :: a11 :: a12 :: a13 :: y :: r)) K = K (a0 :: a1 :: a2 :: a3 :: a4 :: a5 :: a6 :: a7 :: a8 :: a9 :: a10 :: a11 :: a12 :: a13 :: some x :: r) := rfl
theorem oslot_n14 {a0 : Option DV} {a1 : Option DV} {a2 : Option DV} {a3 : Option DV} {a4 : Option DV} {a5 : Option DV} {a6 : Option DV} {a7 : Option DV} {a8 : Option DV} {a9 : Option DV} {a10 : Option DV} {a11 : Option DV} {a12 : Option DV} {a13 : Option DV} {x : DV} {r : DSt} {K : DV → Prop} : onSome (slot (a0 :: a1 :: a2 :: a3 :: a4 :: a5 :: a6 :: a7 :: a8 :: a9 :: a10 :: a11 :: a12 :: a13 :: some x :: r) 14) K = K x := rfl
theorem dVar_n15 {a0 : Option DV} {a1 : Option DV} {a2 : Option DV} {a3 : Option DV} {a4 : Option DV} {a5 : Option DV} {a6 : Option DV} {a7 : Option DV} {a8 : Option DV} {a9 : Option DV} {a10 : Option DV} {a11 : Option DV} {a12 : Option DV} {a13 : Option DV} {a14 : Option DV} {x : DV} {r : DSt} {O : Own} {Q : DVK} : dVar 15 (a0 :: a1 :: a2 :: a3 :: a4 :: a5 :: a6 :: a7 :: a8 :: a9 :: a10 :: a11 :: a12 :: a13 :: a14 :: some x :: r) O Q = Q x O := rfl
theorem dgName_n15 {a0 : Option DV} {a1 : Option DV} {a2 : Option DV} {a3 : Option DV} {a4 : Option DV} {a5 : Option DV} {a6 : Option DV} {a7 : Option DV} {a8 : Option DV} {a9 : Option DV} {a10 : Option DV} {a11 : Option DV} {a12 : Option DV} {a13 : Option DV} {a14 : Option DV} {x : DV} {y : Option DV} {r : DSt} {O : Own} {Q : DSt → Own → Prop} : dgName 15 x (a0 :: a1 :: a2 :: a3 :: a4 :: a5 :: a6 :: a7 :: a8 :: a9 :: a10 :: a11 :: a12 :: a13 :: a14 :: y :: r) O Q = Q (a0 :: a1 :: a2 :: a3 :: a4 :: a5 :: a6 :: a7 :: a8 :: a9 :: a10 :: a11 :: a12 :: a13 :: a14 :: some x :: r) O := rfl
theorem obind_n15 {a0 : Option DV} {a1 : Option DV} {a2 : Option DV} {a3 : Option DV} {a4 : Option DV} {a5 : Option DV} {a6 : Option DV} {a7 : Option DV} {a8 : Option DV} {a9 : Option DV} {a10 : Option DV} {a11 : Option DV} {a12 : Option DV} {a13 : Option DV} {a14 : Option DV} {x : DV} {y : Option DV} {r : DSt} {K : DSt → Prop} : onSome (bind1 15 x (a0 :: a1 :: a2 :: a3 :: a4 :: a5 :: a6 :: a7 :: a8 :: a9 :: a10 :: a11 :: a12 :: a13 :: a14 :: y :: r)) K = K (a0 :: a1 :: a2 :: a3 :: a4 :: a5 :: a6 :: a7 :: a8 :: a9 :: a10 :: a11 :: a12 :: a13 :: a14 :: some x :: r) := rfl
theorem oslot_n15 {a0 : Option DV} {a1 : Option DV} {a2 : Option DV} {a3 : Option DV} {a4 : Option DV} {a5 : Option DV} {a6 : Option DV} {a7 : Option DV} {a8 : Option DV} {a9 : Option DV} {a10 : Option DV} {a11 : Option DV} {a12 : Option DV} {a13 : Option DV} {a14 : Option DV} {x : DV} {r : DSt} {K : DV → Prop} : onSome (slot (a0 :: a1 :: a2 :: a3 :: a4 :: a5 :: a6 :: a7 :: a8 :: a9 :: a10 :: a11 :: a12 :: a13 :: a14 :: some x :: r) 15) K = K x := rfl
theorem dVar_n16 {a0 : Option DV} {a1 : Option DV} {a2 : Option DV} {a3 : Option DV} {a4 : Option DV} {a5 : Option DV} {a6 : Option DV} {a7 : Option DV} {a8 : Option DV} {a9 : Option DV} {a10 : Option DV} {a11 : Option DV} {a12 : Option DV} {a13 : Option DV} {a14 : Option DV} {a15 : Option DV} {x : DV} {r : DSt} {O : Own} {Q : DVK} : dVar 16 (a0 :: a1 :: a2 :: a3 :: a4 :: a5 :: a6 :: a7 :: a8 :: a9 :: a10 :: a11 :: a12 :: a13 :: a14 :: a15 :: some x :: r) O Q = Q x O := rfl
theorem dgName_n16 {a0 : Option DV} {a1 : Option DV} {a2 : Option DV} {a3 : Option DV} {a4 : Option DV} {a5 : Option DV} {a6 : Option DV} {a7 : Option DV} {a8 : Option DV} {a9 : Option DV} {a10 : Option DV} {a11 : Option DV} {a12 : Option DV} {a13 : Option DV} {a14 : Option DV} {a15 : Option DV} {x : DV} {y : Option DV} {r : DSt} {O : Own} {Q : DSt → Own → Prop} : dgName 16 x (a0 :: a1 :: a2 :: a3 :: a4 :: a5 :: a6 :: a7 :: a8 :: a9 :: a10 :: a11 :: a12 :: a13 :: a14 :: a15 :: y :: r) O Q = Q (a0 :: a1 :: a2 :: a3 :: a4 :: a5 :: a6 :: a7 :: a8 :: a9 :: a10 :: a11 :: a12 :: a13 :: a14 :: a15 :: some x :: r) O := rfl
theorem obind_n16 {a0 : Option DV} {a1 : Option DV} {a2 : Option DV} {a3 : Option DV} {a4 : Option DV} {a5 : Option DV} {a6 : Option DV} {a7 : Option DV} {a8 : Option DV} {a9 : Option DV} {a10 : Option DV} {a11 : Option DV} {a12 : Option DV} {a13 : Option DV} {a14 : Option DV} {a15 : Option DV} {x : DV} {y : Option DV} {r : DSt} {K : DSt → Prop} : onSome (bind1 16 x (a0 :: a1 :: a2 :: a3 :: a4 :: a5 :: a6 :: a7 :: a8 :: a9 :: a10 :: a11 :: a12 :: a13 :: a14 :: a15 :: y :: r)) K = K (a0 :: a1 :: a2 :: a3 :: a4 :: a5 :: a6 :: a7 :: a8 :: a9 :: a10 :: a11 :: a12 :: a13 :: a14 :: a15 :: some x :: r) := rfl
theorem oslot_n16 {a0 : Option DV} {a1 : Option DV} {a2 : Option DV} {a3 : Option DV} {a4 : Option DV} {a5 : Option DV} {a6 : Option DV} {a7 : Option DV} {a8 : Option DV} {a9 : Option DV} {a10 : Option DV} {a11 : Option DV} {a12 : Option DV} {a13 : Option DV} {a14 : Option DV} {a15 : Option DV} {x : DV} {r : DSt} {K : DV → Prop} : onSome (slot (a0 :: a1 :: a2 :: a3 :: a4 :: a5 :: a6 :: a7 :: a8 :: a9 :: a10 :: a11 :: a12 :: a13 :: a14 :: a15 :: some x :: r) 16) K = K x := rfl
theorem dVar_n17 {a0 : Option DV} {a1 : Option DV} {a2 : Option DV} {a3 : Option DV} {a4 : Option DV} {a5 : Option DV} {a6 : Option DV} {a7 : Option DV} {a8 : Option DV} {a9 : Option DV} {a10 : Option DV} {a11 : Option DV} {a12 : Option DV} {a13 : Option DV} {a14 : Option DV} {a15 : Option DV} {a16 : Option DV} {x : DV} {r : DSt} {O : Own} {Q : DVK} : dVar 17 (a0 :: a1 :: a2 :: a3 :: a4 :: a5 :: a6 :: a7 :: a8 :: a9 :: a10 :: a11 :: a12 :: a13 :: a14 :: a15 :: a16 :: some x :: r) O Q = Q x O := rfl
theorem dgName_n17 {a0 : Option DV} {a1 : Option DV} {a2 : Option DV} {a3 : Option DV} {a4 : Option DV} {a5 : Option DV} {a6 : Option DV} {a7 : Option DV} {a8 : Option DV} {a9 : Option DV} {a10 : Option DV} {a11 : Option DV} {a12 : Option DV} {a13 : Option DV} {a14 : Option DV} {a15 : Option DV} {a16 : Option DV} {x : DV} {y : Option DV} {r : DSt} {O : Own} {Q : DSt → Own → Prop} : dgName 17 x (a0 :: a1 :: a2 :: a3 :: a4 :: a5 :: a6 :: a7 :: a8 :: a9 :: a10 :: a11 :: a12 :: a13 :: a14 :: a15 :: a16 :: y :: r) O Q = Q (a0 :: a1 :: a2 :: a3 :: a4 :: a5 :: a6 :: a7 :: a8 :: a9 :: a10 :: a11 :: a12 :: a13 :: a14 :: a15 :: a16 :: some x :: r) O := rfl
theorem obind_n17 {a0 : Option DV} {a1 : Option DV} {a2 : Option DV} {a3 : Option DV} {a4 : Option DV} {a5 : Option DV} {a6 : Option DV} {a7 : Option DV} {a8 : Option DV} {a9 : Option DV} {a10 : Option DV} {a11 : Option DV} {a12 : Option DV} {a13 : Option DV} {a14 : Option DV} {a15 : Option DV} {a16 : Option DV} {x : DV} {y : Option DV} {r : DSt} {K : DSt → Prop} : onSome (bind1 17 x (a0 :: a1 :: a2 :: a3 :: a4 :: a5 :: a6 :: a7 :: a8 :: a9 :: a10 :: a11 :: a12 :: a13 :: a14 :: a15 :: a16 :: y :: r)) K = K (a0 :: a1 :: a2 :: a3 :: a4 :: a5 :: a6 :: a7 :: a8 :: a9 :: a10 :: a11 :: a12 :: a13 :: a14 :: a15 :: a16 :: some x :: r) := rfl
theorem oslot_n17 {a0 : Option DV} {a1 : Option DV} {a2 : Option DV} {a3 : Option DV} {a4 : Option DV} {a5 : Option DV} {a6 : Option DV} {a7 : Option DV} {a8 : Option DV} {a9 : Option DV} {a10 : Option DV} {a11 : Option DV} {a12 : Option DV} {a13 : Option DV} {a14 : Option DV} {a15 : Option DV} {a16 : Option DV} {x : DV} {r : DSt} {K : DV → Prop} : onSome (slot (a0 :: a1 :: a2 :: a3 :: a4 :: a5 :: a6 :: a7 :: a8 :: a9 :: a10 :: a11 :: a12 :: a13 :: a14 :: a15 :: a16 :: some x :: r) 17) K = K x := rfl
theorem dVar_n18 {a0 : Option DV} {a1 : Option DV} {a2 : Option DV} {a3 : Option DV} {a4 : Option DV} {a5 : Option DV} {a6 : Option DV} {a7 : Option DV} {a8 : Option DV} {a9 : Option DV} {a10 : Option DV} {a11 : Option DV} {a12 : Option DV} {a13 : Option DV} {a14 : Option DV} {a15 : Option DV} {a16 : Option DV} {a17 : Option DV} {x : DV} {r : DSt} {O : Own} {Q : DVK} : dVar 18 (a0 :: a1 :: a2 :: a3 :: a4 :: a5 :: a6 :: a7 :: a8 :: a9 :: a10 :: a11 :: a12 :: a13 :: a14 :: a15 :: a16 :: a17 :: some x :: r) O Q = Q x O := rfl
theorem dgName_n18 {a0 : Option DV} {a1 : Option DV} {a2 : Option DV} {a3 : Option DV} {a4 : Option DV} {a5 : Option DV} {a6 : Option DV} {a7 : Option DV} {a8 : Option DV} {a9 : Option DV} {a10 : Option DV} {a11 : Option DV} {a12 : Option DV} {a13 : Option DV} {a14 : Option DV} {a15 : Option DV} {a16 : Option DV} {a17 : Option DV} {x : DV} {y : Option DV} {r : DSt} {O : Own} {Q : DSt → Own → Prop} : dgName 18 x (a0 :: a1 :: a2 :: a3 :: a4 :: a5 :: a6 :: a7 :: a8 :: a9 :: a10 :: a11 :: a12 :: a13 :: a14 :: a15 :: a16 :: a17 :: y :: r) O Q = Q (a0 :: a1 :: a2 :: a3 :: a4 :: a5 :: a6 :: a7 :: a8 :: a9 :: a10 :: a11 :: a12 :: a13 :: a14 :: a15 :: a16 :: a17 :: some x :: r) O := rfl
theorem obind_n18 {a0 : Option DV} {a1 : Option DV} {a2 : Option DV} {a3 : Option DV} {a4 : Option DV} {a5 : Option DV} {a6 : Option DV} {a7 : Option DV} {a8 : Option DV} {a9 : Option DV} {a10 : Option DV} {a11 : Option DV} {a12 : Option DV} {a13 : Option DV} {a14 : Option DV} {a15 : Option DV} {a16 : Option DV} {a17 : Option DV} {x : DV} {y : Option DV} {r : DSt} {K : DSt → Prop} : onSome (bind1 18 x (a0 :: a1 :: a2 :: a3 :: a4 :: a5 :: a6 :: a7 :: a8 :: a9 :: a10 :: a11 :: a12 :: a13 :: a14 :: a15 :: a16 :: a17 :: y :: r)) K = K (a0 :: a1 :: a2 :: a3 :: a4 :: a5 :: a6 :: a7 :: a8 :: a9 :: a10 :: a11 :: a12 :: a13 :: a14 :: a15 :: a16 :: a17 :: some x :: r) := rfl
theorem oslot_n18 {a0 : Option DV} {a1 : Option DV} {a2 : Option DV} {a3 : Option DV} {a4 : Option DV} {a5 : Option DV} {a6 : Option DV} {a7 : Option DV} {a8 : Option DV} {a9 : Option DV} {a10 : Option DV} {a11 : Option DV} {a12 : Option DV} {a13 : Option DV} {a14 : Option DV} {a15 : Option DV} {a16 : Option DV} {a17 : Option DV} {x : DV} {r : DSt} {K : DV → Prop} : onSome (slot (a0 :: a1 :: a2 :: a3 :: a4 :: a5 :: a6 :: a7 :: a8 :: a9 :: a10 :: a11 :: a12 :: a13 :: a14 :: a15 :: a16 :: a17 :: some x :: r) 18) K = K x := rfl
theorem dVar_n19 {a0 : Option DV} {a1 : Option DV} {a2 : Option DV} {a3 : Option DV} {a4 : Option DV} {a5 : Option DV} {a6 : Option DV} {a7 : Option DV} {a8 : Option DV} {a9 : Option DV} {a10 : Option DV} {a11 : Option DV} {a12 : Option DV} {a13 : Option DV} {a14 : Option DV} {a15 : Option DV} {a16 : Option DV} {a17 : Option DV} {a18 : Option DV} {x : DV} {r : DSt} {O : Own} {Q : DVK} : dVar 19 (a0 :: a1 :: a2 :: a3 :: a4 :: a5 :: a6 :: a7 :: a8 :: a9 :: a10 :: a11 :: a12 :: a13 :: a14 :: a15 :: a16 :: a17 :: a18 :: some x :: r) O Q = Q x O := rfl
theorem dgName_n19 {a0 : Option DV} {a1 : Option DV} {a2 : Option DV} {a3 : Option DV} {a4 : Option DV} {a5 : Option DV} {a6 : Option DV} {a7 : Option DV} {a8 : Option DV} {a9 : Option DV} {a10 : Option DV} {a11 : Option DV} {a12 : Option DV} {a13 : Option DV} {a14 : Option DV} {a15 : Option DV} {a16 : Option DV} {a17 : Option DV} {a18 : Option DV} {x : DV} {y : Option DV} {r : DSt} {O : Own} {Q : DSt → Own → Prop} : dgName 19 x (a0 :: a1 :: a2 :: a3 :: a4 :: a5 :: a6 :: a7 :: a8 :: a9 :: a10 :: a11 :: a12 :: a13 :: a14 :: a15 :: a16 :: a17 :: a18 :: y :: r) O Q = Q (a0 :: a1 :: a2 :: a3 :: a4 :: a5 :: a6 :: a7 :: a8 :: a9 :: a10 :: a11 :: a12 :: a13 :: a14 :: a15 :: a16 :: a17 :: a18 :: some x :: r) O := rfl
theorem obind_n19 {a0 : Option DV} {a1 : Option DV} {a2 : Option DV} {a3 : Option DV} {a4 : Option DV} {a5 : Option DV} {a6 : Option DV} {a7 : Option DV} {a8 : Option DV} {a9 : Option DV} {a10 : Option DV} {a11 : Option DV} {a12 : Option DV} {a13 : Option DV} {a14 : Option DV} {a15 : Option DV} {a16 : Option DV} {a17 : Option DV} {a18 : Option DV} {x : DV} {y : Option DV} {r : DSt} {K : DSt → Prop} : onSome (bind1 19 x (a0 :: a1 :: a2 :: a3 :: a4 :: a5 :: a6 :: a7 :: a8 :: a9 :: a10 :: a11 :: a12 :: a13 :: a14 :: a15 :: a16 :: a17 :: a18 :: y :: r)) K = K (a0 :: a1 :: a2 :: a3 :: a4 :: a5 :: a6 :: a7 :: a8 :: a9 :: a10 :: a11 :: a12 :: a13 :: a14 :: a15 :: a16 :: a17 :: a18 :: some x :: r) := rfl
theorem oslot_n19 {a0 : Option DV} {a1 : Option DV} {a2 : Option DV} {a3 : Option DV} {a4 : Option DV} {a5 : Option DV} {a6 : Option DV} {a7 : Option DV} {a8 : Option DV} {a9 : Option DV} {a10 : Option DV} {a11 : Option DV} {a12 : Option DV} {a13 : Option DV} {a14 : Option DV} {a15 : Option DV} {a16 : Option DV} {a17 : Option DV} {a18 : Option DV} {x : DV} {r : DSt} {K : DV → Prop} : onSome (slot (a0 :: a1 :: a2 :: a3 :: a4 :: a5 :: a6 :: a7 :: a8 :: a9 :: a10 :: a11 :: a12 :: a13 :: a14 :: a15 :: a16 :: a17 :: a18 :: some x :: r) 19) K = K x := rfl
theorem dVar_n20 {a0 : Option DV} {a1 : Option DV} {a2 : Option DV} {a3 : Option DV} {a4 : Option DV} {a5 : Option DV} {a6 : Option DV} {a7 : Option DV} {a8 : Option DV} {a9 : Option DV} {a10 : Option DV} {a11 : Option DV} {a12 : Option DV} {a13 : Option DV} {a14 : Option DV} {a15 : Option DV} {a16 : Option DV} {a17 : Option DV} {a18 : Option DV} {a19 : Option DV} {x : DV} {r : DSt} {O : Own} {Q : DVK} : dVar 20 (a0 :: a1 :: a2 :: a3 :: a4 :: a5 :: a6 :: a7 :: a8 :: a9 :: a10 :: a11 :: a12 :: a13 :: a14 :: a15 :: a16 :: a17 :: a18 :: a19 :: some x :: r) O Q = Q x O := rfl
theorem dgName_n20 {a0 : Option DV} {a1 : Option DV} {a2 : Option DV} {a3 : Option DV} {a4 : Option DV} {a5 : Option DV} {a6 : Option DV} {a7 : Option DV} {a8 : Option DV} {a9 : Option DV} {a10 : Option DV} {a11 : Option DV} {a12 : Option DV} {a13 : Option DV} {a14 : Option DV} {a15 : Option DV} {a16 : Option DV} {a17 : Option DV} {a18 : Option DV} {a19 : Option DV} {x : DV} {y : Option DV} {r : DSt} {O : Own} {Q : DSt → Own → Prop} : dgName 20 x (a0 :: a1 :: a2 :: a3 :: a4 :: a5 :: a6 :: a7 :: a8 :: a9 :: a10 :: a11 :: a12 :: a13 :: a14 :: a15 :: a16 :: a17 :: a18 :: a19 :: y :: r) O Q = Q (a0 :: a1 :: a2 :: a3 :: a4 :: a5 :: a6 :: a7 :: a8 :: a9 :: a10 :: a11 :: a12 :: a13 :: a14 :: a15 :: a16 :: a17 :: a18 :: a19 :: some x :: r) O := rfl
theorem obind_n20 {a0 : Option DV} {a1 : Option DV} {a2 : Option DV} {a3 : Option DV} {a4 : Option DV} {a5 : Option DV} {a6 : Option DV} {a7 : Option DV} {a8 : Option DV} {a9 : Option DV} {a10 : Option DV} {a11 : Option DV} {a12 : Option DV} {a13 : Option DV} {a14 : Option DV} {a15 : Option DV} {a16 : Option DV} {a17 : Option DV} {a18 : Option DV} {a19 : Option DV} {x : DV} {y : Option DV} {r : DSt} {K : DSt → Prop} : onSome (bind1 20 x (a0 :: a1 :: a2 :: a3 :: a4 :: a5 :: a6 :: a7 :: a8 :: a9 :: a10 :: a11 :: a12 :: a13 :: a14 :: a15 :: a16 :: a17 :: a18 :: a19 :: y :: r)) K = K (a0 :: a1 :: a2 :: a3 :: a4 :: a5 :: a6 :: a7 :: a8 :: a9 :: a10 :: a11 :: a12 :: a13 :: a14 :: a15 :: a16 :: a17 :: a18 :: a19 :: some x :: r) := rfl
theorem oslot_n20 {a0 : Option DV} {a1 : Option DV} {a2 : Option DV} {a3 : Option DV} {a4 : Option DV} {a5 : Option DV} {a6 : Option DV} {a7 : Option DV} {a8 : Option DV} {a9 : Option DV} {a10 : Option DV} {a11 : Option DV} {a12 : Option DV} {a13 : Option DV} {a14 : Option DV} {a15 : Option DV} {a16 : Option DV} {a17 : Option DV} {a18 : Option DV} {a19 : Option DV} {x : DV} {r : DSt} {K : DV → Prop} : onSome (slot (a0 :: a1 :: a2 :: a3 :: a4 :: a5 :: a6 :: a7 :: a8 :: a9 :: a10 :: a11 :: a12 :: a13 :: a14 :: a15 :: a16 :: a17 :: a18 :: a19 :: some x :: r) 20) K = K x := rfl
theorem dVar_n21 {a0 : Option DV} {a1 : Option DV} {a2 : Option DV} {a3 : Option DV} {a4 : Option DV} {a5 : Option DV} {a6 : Option DV} {a7 : Option DV} {a8 : Option DV} {a9 : Option DV} {a10 : Option DV} {a11 : Option DV} {a12 : Option DV} {a13 : Option DV} {a14 : Option DV} {a15 : Option DV} {a16 : Option DV} {a17 : Option DV} {a18 : Option DV} {a19 : Option DV} {a20 : Option DV} {x : DV} {r : DSt} {O : Own} {Q : DVK} : dVar 21 (a0 :: a1 :: a2 :: a3 :: a4 :: a5 :: a6 :: a7 :: a8 :: a9 :: a10 :: a11 :: a12 :: a13 :: a14 :: a15 :: a16 :: a17 :: a18 :: a19 :: a20 :: some x :: r) O Q = Q x O := rfl
theorem dgName_n21 {a0 : Option DV} {a1 : Option DV} {a2 : Option DV} {a3 : Option DV} {a4 : Option DV} {a5 : Option DV} {a6 : Option DV} {a7 : Option DV} {a8 : Option DV} {a9 : Option DV} {a10 : Option DV} {a11 : Option DV} {a12 : Option DV} {a13 : Option DV} {a14 : Option DV} {a15 : Option DV} {a16 : Option DV} {a17 : Option DV} {a18 : Option DV} {a19 : Option DV} {a20 : Option DV} {x : DV} {y : Option DV} {r : DSt} {O : Own} {Q : DSt → Own → Prop} : dgName 21 x (a0 :: a1 :: a2 :: a3 :: a4 :: a5 :: a6 :: a7 :: a8 :: a9 :: a10 :: a11 :: a12 :: a13 :: a14 :: a15 :: a16 :: a17 :: a18 :: a19 :: a20 :: y :: r) O Q = Q (a0 :: a1 :: a2 :: a3 :: a4 :: a5 :: a6 :: a7 :: a8 :: a9 :: a10 :: a11 :: a12 :: a13 :: a14 :: a15 :: a16 :: a17 :: a18 :: a19 :: a20 :: some x :: r) O := rfl
theorem obind_n21 {a0 : Option DV} {a1 : Option DV} {a2 : Option DV} {a3 : Option DV} {a4 : Option DV} {a5 : Option DV} {a6 : Option DV} {a7 : Option DV} {a8 : Option DV} {a9 : Option DV} {a10 : Option DV} {a11 : Option DV} {a12 : Option DV} {a13 : Option DV} {a14 : Option DV} {a15 : Option DV} {a16 : Option DV} {a17 : Option DV} {a18 : Option DV} {a19 : Option DV} {a20 : Option DV} {x : DV} {y : Option DV} {r : DSt} {K : DSt → Prop} : onSome (bind1 21 x (a0 :: a1 :: a2 :: a3 :: a4 :: a5 :: a6 :: a7 :: a8 :: a9 :: a10 :: a11 :: a12 :: a13 :: a14 :: a15 :: a16 :: a17 :: a18 :: a19 :: a20 :: y :: r)) K = K (a0 :: a1 :: a2 :: a3 :: a4 :: a5 :: a6 :: a7 :: a8 :: a9 :: a10 :: a11 :: a12 :: a13 :: a14 :: a15 :: a16 :: a17 :: a18 :: a19 :: a20 :: some x :: r) := rfl
theorem oslot_n21 {a0 : Option DV} {a1 : Option DV} {a2 : Option DV} {a3 : Option DV} {a4 : Option DV} {a5 : Option DV} {a6 : Option DV} {a7 : Option DV} {a8 : Option DV} {a9 : Option DV} {a10 : Option DV} {a11 : Option DV} {a12 : Option DV} {a13 : Option DV} {a14 : Option DV} {a15 : Option DV} {a16 : Option DV} {a17 : Option DV} {a18 : Option DV} {a19 : Option DV} {a20 : Option DV} {x : DV} {r : DSt} {K : DV → Prop} : onSome (slot (a0 :: a1 :: a2 :: a3 :: a4 :: a5 :: a6 :: a7 :: a8 :: a9 :: a10 :: a11 :: a12 :: a13 :: a14 :: a15 :: a16 :: a17 :: a18 :: a19 :: a20 :: some x :: r) 21) K = K x := rfl
theorem dVar_n22 {a0 : Option DV} {a1 : Option DV} {a2 : Option DV} {a3 : Option DV} {a4 : Option DV} {a5 : Option DV} {a6 : Option DV} {a7 : Option DV} {a8 : Option DV} {a9 : Option DV} {a10 : Option DV} {a11 : Option DV} {a12 : Option DV} {a13 : Option DV} {a14 : Option DV} {a15 : Option DV} {a16 : Option DV} {a17 : Option DV} {a18 : Option DV} {a19 : Option DV} {a20 : Option DV} {a21 : Option DV} {x : DV} {r : DSt} {O : Own} {Q : DVK} : dVar 22 (a0 :: a1 :: a2 :: a3 :: a4 :: a5 :: a6 :: a7 :: a8 :: a9 :: a10 :: a11 :: a12 :: a13 :: a14 :: a15 :: a16 :: a17 :: a18 :: a19 :: a20 :: a21 :: some x :: r) O Q = Q x O := rfl
theorem dgName_n22 {a0 : Option DV} {a1 : Option DV} {a2 : Option DV} {a3 : Option DV} {a4 : Option DV} {a5 : Option DV} {a6 : Option DV} {a7 : Option DV} {a8 : Option DV} {a9 : Option DV} {a10 : Option DV} {a11 : Option DV} {a12 : Option DV} {a13 : Option DV} {a14 : Option DV} {a15 : Option DV} {a16 : Option DV} {a17 : Option DV} {a18 : Option DV} {a19 : Option DV} {a20 : Option DV} {a21 : Option DV} {x : DV} {y : Option DV} {r : DSt} {O : Own} {Q : DSt → Own → Prop} : dgName 22 x (a0 :: a1 :: a2 :: a3 :: a4 :: a5 :: a6 :: a7 :: a8 :: a9 :: a10 :: a11 :: a12 :: a13 :: a14 :: a15 :: a16 :: a17 :: a18 :: a19 :: a20 :: a21 :: y :: r) O Q = Q (a0 :: a1 :: a2 :: a3 :: a4 :: a5 :: a6 :: a7 :: a8 :: a9 :: a10 :: a11 :: a12 :: a13 :: a14 :: a15 :: a16 :: a17 :: a18 :: a19 :: a20 :: a21 :: some x :: r) O := rfl
theorem obind_n22 {a0 : Option DV} {a1 : Option DV} {a2 : Option DV} {a3 : Option DV} {a4 : Option DV} {a5 : Option DV} {a6 : Option DV} {a7 : Option DV} {a8 : Option DV} {a9 : Option DV} {a10 : Option DV} {a11 : Option DV} {a12 : Option DV} {a13 : Option DV} {a14 : Option DV} {a15 : Option DV} {a16 : Option DV} {a17 : Option DV} {a18 : Option DV} {a19 : Option DV} {a20 : Option DV} {a21 : Option DV} {x : DV} {y : Option DV} {r : DSt} {K : DSt → Prop} : onSome (bind1 22 x (a0 :: a1 :: a2 :: a3 :: a4 :: a5 :: a6 :: a7 :: a8 :: a9 :: a10 :: a11 :: a12 :: a13 :: a14 :: a15 :: a16 :: a17 :: a18 :: a19 :: a20 :: a21 :: y :: r)) K = K (a0 :: a1 :: a2 :: a3 :: a4 :: a5 :: a6 :: a7 :: a8 :: a9 :: a10 :: a11 :: a12 :: a13 :: a14 :: a15 :: a16 :: a17 :: a18 :: a19 :: a20 :: a21 :: some x :: r) := rfl
theorem oslot_n22 {a0 : Option DV} {a1 : Option DV} {a2 : Option DV} {a3 : Option DV} {a4 : Option DV} {a5 : Option DV} {a6 : Option DV} {a7 : Option DV} {a8 : Option DV} {a9 : Option DV} {a10 : Option DV} {a11 : Option DV} {a12 : Option DV} {a13 : Option DV} {a14 : Option DV} {a15 : Option DV} {a16 : Option DV} {a17 : Option DV} {a18 : Option DV} {a19 : Option DV} {a20 : Option DV} {a21 : Option DV} {x : DV} {r : DSt} {K : DV → Prop} : onSome (slot (a0 :: a1 :: a2 :: a3 :: a4 :: a5 :: a6 :: a7 :: a8 :: a9 :: a10 :: a11 :: a12 :: a13 :: a14 :: a15 :: a16 :: a17 :: a18 :: a19 :: a20 :: a21 :: some x :: r) 22) K = K x := rfl
theorem dVar_n23 {a0 : Option DV} {a1 : Option DV} {a2 : Option DV} {a3 : Option DV} {a4 : Option DV} {a5 : Option DV} {a6 : Option DV} {a7 : Option DV} {a8 : Option DV} {a9 : Option DV} {a10 : Option DV} {a11 : Option DV} {a12 : Option DV} {a13 : Option DV} {a14 : Option DV} {a15 : Option DV} {a16 : Option DV} {a17 : Option DV} {a18 : Option DV} {a19 : Option DV} {a20 : Option DV} {a21 : Option DV} {a22 : Option DV} {x : DV} {r : DSt} {O : Own} {Q : DVK} : dVar 23 (a0 :: a1 :: a2 :: a3 :: a4 :: a5 :: a6 :: a7 :: a8 :: a9 :: a10 :: a11 :: a12 :: a13 :: a14 :: a15 :: a16 :: a17 :: a18 :: a19 :: a20 :: a21 :: a22 :: some x :: r) O Q = Q x O := rfl
theorem dgName_n23 {a0 : Option DV} {a1 : Option DV} {a2 : Option DV} {a3 : Option DV} {a4 : Option DV} {a5 : Option DV} {a6 : Option DV} {a7 : Option DV} {a8 : Option DV} {a9 : Option DV} {a10 : Option DV} {a11 : Option DV} {a12 : Option DV} {a13 : Option DV} {a14 : Option DV} {a15 : Option DV} {a16 : Option DV} {a17 : Option DV} {a18 : Option DV} {a19 : Option DV} {a20 : Option DV} {a21 : Option DV} {a22 : Option DV} {x : DV} {y : Option DV} {r : DSt} {O : Own} {Q : DSt → Own → Prop} : dgName 23 x (a0 :: a1 :: a2 :: a3 :: a4 :: a5 :: a6 :: a7 :: a8 :: a9 :: a10 :: a11 :: a12 :: a13 :: a14 :: a15 :: a16 :: a17 :: a18 :: a19 :: a20 :: a21 :: a22 :: y :: r) O Q = Q (a0 :: a1 :: a2 :: a3 :: a4 :: a5 :: a6 :: a7 :: a8 :: a9 :: a10 :: a11 :: a12 :: a13 :: a14 :: a15 :: a16 :: a17 :: a18 :: a19 :: a20 :: a21 :: a22 :: some x :: r) O := rfl
theorem obind_n23 {a0 : Option DV} {a1 : Option DV} {a2 : Option DV} {a3 : Option DV} {a4 : Option DV} {a5 : Option DV} {a6 : Option DV} {a7 : Option DV} {a8 : Option DV} {a9 : Option DV} {a10 : Option DV} {a11 : Option DV} {a12 : Option DV} {a13 : Option DV} {a14 : Option DV} {a15 : Option DV} {a16 : Option DV} {a17 : Option DV} {a18 : Option DV} {a19 : Option DV} {a20 : Option DV} {a21 : Option DV} {a22 : Option DV} {x : DV} {y : Option DV} {r : DSt} {K : DSt → Prop} : onSome (bind1 23 x (a0 :: a1 :: a2 :: a3 :: a4 :: a5 :: a6 :: a7 :: a8 :: a9 :: a10 :: a11 :: a12 :: a13 :: a14 :: a15 :: a16 :: a17 :: a18 :: a19 :: a20 :: a21 :: a22 :: y :: r)) K = K (a0 :: a1 :: a2 :: a3 :: a4 :: a5 :: a6 :: a7 :: a8 :: a9 :: a10 :: a11 :: a12 :: a13 :: a14 :: a15 :: a16 :: a17 :: a18 :: a19 :: a20 :: a21 :: a22 :: some x :: r) := rfl
theorem oslot_n23 {a0 : Option DV} {a1 : Option DV} {a2 : Option DV} {a3 : Option DV} {a4 : Option DV} {a5 : Option DV} {a6 : Option DV} {a7 : Option DV} {a8 : Option DV} {a9 : Option DV} {a10 : Option DV} {a11 : Option DV} {a12 : Option DV} {a13 : Option DV} {a14 : Option DV} {a15 : Option DV} {a16 : Option DV} {a17 : Option DV} {a18 : Option DV} {a19 : Option DV} {a20 : Option DV} {a21 : Option DV} {a22 : Option DV} {x : DV} {r : DSt} {K : DV → Prop} : onSome (slot (a0 :: a1 :: a2 :: a3 :: a4 :: a5 :: a6 :: a7 :: a8 :: a9 :: a10 :: a11 :: a12 :: a13 :: a14 :: a15 :: a16 :: a17 :: a18 :: a19 :: a20 :: a21 :: a22 :: some x :: r) 23) K = K x := rfl
theorem dVar_n24 {a0 : Option DV} {a1 : Option DV} {a2 : Option DV} {a3 : Option DV} {a4 : Option DV} {a5 : Option DV} {a6 : Option DV} {a7 : Option DV} {a8 : Option DV} {a9 : Option DV} {a10 : Option DV} {a11 : Option DV} {a12 : Option DV} {a13 : Option DV} {a14 : Option DV} {a15 : Option DV} {a16 : Option DV} {a17 : Option DV} {a18 : Option DV} {a19 : Option DV} {a20 : Option DV} {a21 : Option DV} {a22 : Option DV} {a23 : Option DV} {x : DV} {r : DSt} {O : Own} {Q : DVK} : dVar 24 (a0 :: a1 :: a2 :: a3 :: a4 :: a5 :: a6 :: a7 :: a8 :: a9 :: a10 :: a11 :: a12 :: a13 :: a14 :: a15 :: a16 :: a17 :: a18 :: a19 :: a20 :: a21 :: a22 :: a23 :: some x :: r) O Q = Q x O := rfl
theorem dgName_n24 {a0 : Option DV} {a1 : Option DV} {a2 : Option DV} {a3 : Option DV} {a4 : Option DV} {a5 : Option DV} {a6 : Option DV} {a7 : Option DV} {a8 : Option DV} {a9 : Option DV} {a10 : Option DV} {a11 : Option DV} {a12 : Option DV} {a13 : Option DV} {a14 : Option DV} {a15 : Option DV} {a16 : Option DV} {a17 : Option DV} {a18 : Option DV} {a19 : Option DV} {a20 : Option DV} {a21 : Option DV} {a22 : Option DV} {a23 : Option DV} {x : DV} {y : Option DV} {r : DSt} {O : Own} {Q : DSt → Own → Prop} : dgName 24 x (a0 :: a1 :: a2 :: a3 :: a4 :: a5 :: a6 :: a7 :: a8 :: a9 :: a10 :: a11 :: a12 :: a13 :: a14 :: a15 :: a16 :: a17 :: a18 :: a19 :: a20 :: a21 :: a22 :: a23 :: y :: r) O Q = Q (a0 :: a1 :: a2 :: a3 :: a4 :: a5 :: a6 :: a7 :: a8 :: a9 :: a10 :: a11 :: a12 :: a13 :: a14 :: a15 :: a16 :: a17 :: a18 :: a19 :: a20 :: a21 :: a22 :: a23 :: some x :: r) O := rfl
theorem obind_n24 {a0 : Option DV} {a1 : Option DV} {a2 : Option DV} {a3 : Option DV} {a4 : Option DV} {a5 : Option DV} {a6 : Option DV} {a7 : Option DV} {a8 : Option DV} {a9 : Option DV} {a10 : Option DV} {a11 : Option DV} {a12 : Option DV} {a13 : Option DV} {a14 : Option DV} {a15 : Option DV} {a16 : Option DV} {a17 : Option DV} {a18 : Option DV} {a19 : Option DV} {a20 : Option DV} {a21 : Option DV} {a22 : Option DV} {a23 : Option DV} {x : DV} {y : Option DV} {r : DSt} {K : DSt → Prop} : onSome (bind1 24 x (a0 :: a1 :: a2 :: a3 :: a4 :: a5 :: a6 :: a7 :: a8 :: a9 :: a10 :: a11 :: a12 :: a13 :: a14 :: a15 :: a16 :: a17 :: a18 :: a19 :: a20 :: a21 :: a22 :: a23 :: y :: r)) K = K (a0 :: a1 :: a2 :: a3 :: a4 :: a5 :: a6 :: a7 :: a8 :: a9 :: a10 :: a11 :: a12 :: a13 :: a14 :: a15 :: a16 :: a17 :: a18 :: a19 :: a20 :: a21 :: a22 :: a23 :: some x :: r) := rfl
theorem oslot_n24 {a0 : Option DV} {a1 : Option DV} {a2 : Option DV} {a3 : Option DV} {a4 : Option DV} {a5 : Option DV} {a6 : Option DV} {a7 : Option DV} {a8 : Option DV} {a9 : Option DV} {a10 : Option DV} {a11 : Option DV} {a12 : Option DV} {a13 : Option DV} {a14 : Option DV} {a15 : Option DV} {a16 : Option DV} {a17 : Option DV} {a18 : Option DV} {a19 : Option DV} {a20 : Option DV} {a21 : Option DV} {a22 : Option DV} {a23 : Option DV} {x : DV} {r : DSt} {K : DV → Prop} : onSome (slot (a0 :: a1 :: a2 :: a3 :: a4 :: a5 :: a6 :: a7 :: a8 :: a9 :: a10 :: a11 :: a12 :: a13 :: a14 :: a15 :: a16 :: a17 :: a18 :: a19 :: a20 :: a21 :: a22 :: a23 :: some x :: r) 24) K = K x := rfl
theorem dVar_n25 {a0 : Option DV} {a1 : Option DV} {a2 : Option DV} {a3 : Option DV} {a4 : Option DV} {a5 : Option DV} {a6 : Option DV} {a7 : Option DV} {a8 : Option DV} {a9 : Option DV} {a10 : Option DV} {a11 : Option DV} {a12 : Option DV} {a13 : Option DV} {a14 : Option DV} {a15 : Option DV} {a16 : Option DV} {a17 : Option DV} {a18 : Option DV} {a19 : Option DV} {a20 : Option DV} {a21 : Option DV} {a22 : Option DV} {a23 : Option DV} {a24 : Option DV} {x : DV} {r : DSt} {O : Own} {Q : DVK} : dVar 25 (a0 :: a1 :: a2 :: a3 :: a4 :: a5 :: a6 :: a7 :: a8 :: a9 :: a10 :: a11 :: a12 :: a13 :: a14 :: a15 :: a16 :: a17 :: a18 :: a19 :: a20 :: a21 :: a22 :: a23 :: a24 :: some x :: r) O Q = Q x O := rfl
theorem dgName_n25 {a0 : Option DV} {a1 : Option DV} {a2 : Option DV} {a3 : Option DV} {a4 : Option DV} {a5 : Option DV} {a6 : Option DV} {a7 : Option DV} {a8 : Option DV} {a9 : Option DV} {a10 : Option DV} {a11 : Option DV} {a12 : Option DV} {a13 : Option DV} {a14 : Option DV} {a15 : Option DV} {a16 : Option DV} {a17 : Option DV} {a18 : Option DV} {a19 : Option DV} {a20 : Option DV} {a21 : Option DV} {a22 : Option DV} {a23 : Option DV} {a24 : Option DV} {x : DV} {y : Option DV} {r : DSt} {O : Own} {Q : DSt → Own → Prop} : dgName 25 x (a0 :: a1 :: a2 :: a3 :: a4 :: a5 :: a6 :: a7 :: a8 :: a9 :: a10 :: a11 :: a12 :: a13 :: a14 :: a15 :: a16 :: a17 :: a18 :: a19 :: a20 :: a21 :: a22 :: a23 :: a24 :: y :: r) O Q = Q (a0 :: a1 :: a2 :: a3 :: a4 :: a5 :: a6 :: a7 :: a8 :: a9 :: a10 :: a11 :: a12 :: a13 :: a14 :: a15 :: a16 :: a17 :: a18 :: a19 :: a20 :: a21 :: a22 :: a23 :: a24 :: some x :: r) O := rfl
theorem obind_n25 {a0 : Option DV} {a1 : Option DV} {a2 : Option DV} {a3 : Option DV} {a4 : Option DV} {a5 : Option DV} {a6 : Option DV} {a7 : Option DV} {a8 : Option DV} {a9 : Option DV} {a10 : Option DV} {a11 : Option DV} {a12 : Option DV} {a13 : Option DV} {a14 : Option DV} {a15 : Option DV} {a16 : Option DV} {a17 : Option DV} {a18 : Option DV} {a19 : Option DV} {a20 : Option DV} {a21 : Option DV} {a22 : Option DV} {a23 : Option DV} {a24 : Option DV} {x : DV} {y : Option DV} {r : DSt} {K : DSt → Prop} : onSome (bind1 25 x (a0 :: a1 :: a2 :: a3 :: a4 :: a5 :: a6 :: a7 :: a8 :: a9 :: a10 :: a11 :: a12 :: a13 :: a14 :: a15 :: a16 :: a17 :: a18 :: a19 :: a20 :: a21 :: a22 :: a23 :: a24 :: y :: r)) K = K (a0 :: a1 :: a2 :: a3 :: a4 :: a5 :: a6 :: a7 :: a8 :: a9 :: a10 :: a11 :: a12 :: a13 :: a14 :: a15 :: a16 :: a17 :: a18 :: a19 :: a20 :: a21 :: a22 :: a23 :: a24 :: some x :: r) := rfl
theorem oslot_n25 {a0 : Option DV} {a1 : Option DV} {a2 : Option DV} {a3 : Option DV} {a4 : Option DV} {a5 : Option DV} {a6 : Option DV} {a7 : Option DV} {a8 : Option DV} {a9 : Option DV} {a10 : Option DV} {a11 : Option DV} {a12 : Option DV} {a13 : Option DV} {a14 : Option DV} {a15 : Option DV} {a16 : Option DV} {a17 : Option DV} {a18 : Option DV} {a19 : Option DV} {a20 : Option DV} {a21 : Option DV} {a22 : Option DV} {a23 : Option DV} {a24 : Option DV} {x : DV} {r : DSt} {K : DV → Prop} : onSome (slot (a0 :: a1 :: a2 :: a3 :: a4 :: a5 :: a6 :: a7 :: a8 :: a9 :: a10 :: a11 :: a12 :: a13 :: a14 :: a15 :: a16 :: a17 :: a18 :: a19 :: a20 :: a21 :: a22 :: a23 :: a24 :: some x :: r) 25) K = K x := rfl
theorem dVar_n26 {a0 : Option DV} {a1 : Option DV} {a2 : Option DV} {a3 : Option DV} {a4 : Option DV} {a5 : Option DV} {a6 : Option DV} {a7 : Option DV} {a8 : Option DV} {a9 : Option DV} {a10 : Option DV} {a11 : Option DV} {a12 : Option DV} {a13 : Option DV} {a14 : Option DV} {a15 : Option DV} {a16 : Option DV} {a17 : Option DV} {a18 : Option DV} {a19 : Option DV} {a20 : Option DV} {a21 : Option DV} {a22 : Option DV} {a23 : Option DV} {a24 : Option DV} {a25 : Option DV} {x : DV} {r : DSt} {O : Own} {Q : DVK} : dVar 26 (a0 :: a1 :: a2 :: a3 :: a4 :: a5 :: a6 :: a7 :: a8 :: a9 :: a10 :: a11 :: a12 :: a13 :: a14 :: a15 :: a16 :: a17 :: a18 :: a19 :: a20 :: a21 :: a22 :: a23 :: a24 :: a25 :: some x :: r) O Q = Q x O := rfl
theorem dgName_n26 {a0 : Option DV} {a1 : Option DV} {a2 : Option DV} {a3 : Option DV} {a4 : Option DV} {a5 : Option DV} {a6 : Option DV} {a7 : Option DV} {a8 : Option DV} {a9 : Option DV} {a10 : Option DV} {a11 : Option DV} {a12 : Option DV} {a13 : Option DV} {a14 : Option DV} {a15 : Option DV} {a16 : Option DV} {a17 : Option DV} {a18 : Option DV} {a19 : Option DV} {a20 : Option DV} {a21 : Option DV} {a22 : Option DV} {a23 : Option DV} {a24 : Option DV} {a25 : Option DV} {x : DV} {y : Option DV} {r : DSt} {O : Own} {Q : DSt → Own → Prop} : dgName 26 x (a0 :: a1 :: a2 :: a3 :: a4 :: a5 :: a6 :: a7 :: a8 :: a9 :: a10 :: a11 :: a12 :: a13 :: a14 :: a15 :: a16 :: a17 :: a18 :: a19 :: a20 :: a21 :: a22 :: a23 :: a24 :: a25 :: y :: r) O Q = Q (a0 :: a1 :: a2 :: a3 :: a4 :: a5 :: a6 :: a7 :: a8 :: a9 :: a10 :: a11 :: a12 :: a13 :: a14 :: a15 :: a16 :: a17 :: a18 :: a19 :: a20 :: a21 :: a22 :: a23 :: a24 :: a25 :: some x :: r) O := rfl
theorem obind_n26 {a0 : Option DV} {a1 : Option DV} {a2 : Option DV} {a3 : Option DV} {a4 : Option DV} {a5 : Option DV} {a6 : Option DV} {a7 : Option DV} {a8 : Option DV} {a9 : Option DV} {a10 : Option DV} {a11 : Option DV} {a12 : Option DV} {a13 : Option DV} {a14 : Option DV} {a15 : Option DV} {a16 : Option DV} {a17 : Option DV} {a18 : Option DV} {a19 : Option DV} {a20 : Option DV} {a21 : Option DV} {a22 : Option DV} {a23 : Option DV} {a24 : Option DV} {a25 : Option DV} {x : DV} {y : Option DV} {r : DSt} {K : DSt → Prop} : onSome (bind1 26 x (a0 :: a1 :: a2 :: a3 :: a4 :: a5 :: a6 :: a7 :: a8 :: a9 :: a10 :: a11 :: a12 :: a13 :: a14 :: a15 :: a16 :: a17 :: a18 :: a19 :: a20 :: a21 :: a22 :: a23 :: a24 :: a25 :: y :: r)) K = K (a0 :: a1 :: a2 :: a3 :: a4 :: a5 :: a6 :: a7 :: a8 :: a9 :: a10 :: a11 :: a12 :: a13 :: a14 :: a15 :: a16 :: a17 :: a18 :: a19 :: a20 :: a21 :: a22 :: a23 :: a24 :: a25 :: some x :: r) := rfl
theorem oslot_n26 {a0 : Option DV} {a1 : Option DV} {a2 : Option DV} {a3 : Option DV} {a4 : Option DV} {a5 : Option DV} {a6 : Option DV} {a7 : Option DV} {a8 : Option DV} {a9 : Option DV} {a10 : Option DV} {a11 : Option DV} {a12 : Option DV} {a13 : Option DV} {a14 : Option DV} {a15 : Option DV} {a16 : Option DV} {a17 : Option DV} {a18 : Option DV} {a19 : Option DV} {a20 : Option DV} {a21 : Option DV} {a22 : Option DV} {a23 : Option DV} {a24 : Option DV} {a25 : Option DV} {x : DV} {r : DSt} {K : DV → Prop} : onSome (slot (a0 :: a1 :: a2 :: a3 :: a4 :: a5 :: a6 :: a7 :: a8 :: a9 :: a10 :: a11 :: a12 :: a13 :: a14 :: a15 :: a16 :: a17 :: a18 :: a19 :: a20 :: a21 :: a22 :: a23 :: a24 :: a25 :: some x :: r) 26) K = K x := rfl
theorem dVar_n27 {a0 : Option DV} {a1 : Option DV} {a2 : Option DV} {a3 : Option DV} {a4 : Option DV} {a5 : Option DV} {a6 : Option DV} {a7 : Option DV} {a8 : Option DV} {a9 : Option DV} {a10 : Option DV} {a11 : Option DV} {a12 : Option DV} {a13 : Option DV} {a14 : Option DV} {a15 : Option DV} {a16 : Option DV} {a17 : Option DV} {a18 : Option DV} {a19 : Option DV} {a20 : Option DV} {a21 : Option DV} {a22 : Option DV} {a23 : Option DV} {a24 : Option DV} {a25 : Option DV} {a26 : Option DV} {x : DV} {r : DSt} {O : Own} {Q : DVK} : dVar 27 (a0 :: a1 :: a2 :: a3 :: a4 :: a5 :: a6 :: a7 :: a8 :: a9 :: a10 :: a11 :: a12 :: a13 :: a14 :: a15 :: a16 :: a17 :: a18 :: a19 :: a20 :: a21 :: a22 :: a23 :: a24 :: a25 :: a26 :: some x :: r) O Q = Q x O := rfl
theorem dgName_n27 {a0 : Option DV} {a1 : Option DV} {a2 : Option DV} {a3 : Option DV} {a4 : Option DV} {a5 : Option DV} {a6 : Option DV} {a7 : Option DV} {a8 : Option DV} {a9 : Option DV} {a10 : Option DV} {a11 : Option DV} {a12 : Option DV} {a13 : Option DV} {a14 : Option DV} {a15 : Option DV} {a16 : Option DV} {a17 : Option DV} {a18 : Option DV} {a19 : Option DV} {a20 : Option DV} {a21 : Option DV} {a22 : Option DV} {a23 : Option DV} {a24 : Option DV} {a25 : Option DV} {a26 : Option DV} {x : DV} {y : Option DV} {r : DSt} {O : Own} {Q : DSt → Own → Prop} : dgName 27 x (a0 :: a1 :: a2 :: a3 :: a4 :: a5 :: a6 :: a7 :: a8 :: a9 :: a10 :: a11 :: a12 :: a13 :: a14 :: a15 :: a16 :: a17 :: a18 :: a19 :: a20 :: a21 :: a22 :: a23 :: a24 :: a25 :: a26 :: y :: r) O Q = Q (a0 :: a1 :: a2 :: a3 :: a4 :: a5 :: a6 :: a7 :: a8 :: a9 :: a10 :: a11 :: a12 :: a13 :: a14 :: a15 :: a16 :: a17 :: a18 :: a19 :: a20 :: a21 :: a22 :: a23 :: a24 :: a25 :: a26 :: some x :: r) O := rfl
theorem obind_n27 {a0 : Option DV} {a1 : Option DV} {a2 : Option DV} {a3 : Option DV} {a4 : Option DV} {a5 : Option DV} {a6 : Option DV} {a7 : Option DV} {a8 : Option DV} {a9 : Option DV} {a10 : Option DV} {a11 : Option DV} {a12 : Option DV} {a13 : Option DV} {a14 : Option DV} {a15 : Option DV} {a16 : Option DV} {a17 : Option DV} {a18 : Option DV} {a19 : Option DV} {a20 : Option DV} {a21 : Option DV} {a22 : Option DV} {a23 : Option DV} {a24 : Option DV} {a25 : Option DV} {a26 : Option DV} {x : DV} {y : Option DV} {r : DSt} {K : DSt → Prop} : onSome (bind1 27 x (a0 :: a1 :: a2 :: a3 :: a4 :: a5 :: a6 :: a7 :: a8 :: a9 :: a10 :: a11 :: a12 :: a13 :: a14 :: a15 :: a16 :: a17 :: a18 :: a19 :: a20 :: a21 :: a22 :: a23 :: a24 :: a25 :: a26 :: y :: r)) K = K (a0 :: a1 :: a2 :: a3 :: a4 :: a5 :: a6 :: a7 :: a8 :: a9 :: a10 :: a11 :: a12 :: a13 :: a14 :: a15 :: a16 :: a17 :: a18 :: a19 :: a20 :: a21 :: a22 :: a23 :: a24 :: a25 :: a26 :: some x :: r) := rfl
theorem oslot_n27 {a0 : Option DV} {a1 : Option DV} {a2 : Option DV} {a3 : Option DV} {a4 : Option DV} {a5 : Option DV} {a6 : Option DV} {a7 : Option DV} {a8 : Option DV} {a9 : Option DV} {a10 : Option DV} {a11 : Option DV} {a12 : Option DV} {a13 : Option DV} {a14 : Option DV} {a15 : Option DV} {a16 : Option DV} {a17 : Option DV} {a18 : Option DV} {a19 : Option DV} {a20 : Option DV} {a21 : Option DV} {a22 : Option DV} {a23 : Option DV} {a24 : Option DV} {a25 : Option DV} {a26 : Option DV} {x : DV} {r : DSt} {K : DV → Prop} : onSome (slot (a0 :: a1 :: a2 :: a3 :: a4 :: a5 :: a6 :: a7 :: a8 :: a9 :: a10 :: a11 :: a12 :: a13 :: a14 :: a15 :: a16 :: a17 :: a18 :: a19 :: a20 :: a21 :: a22 :: a23 :: a24 :: a25 :: a26 :: some x :: r) 27) K = K x := rfl
theorem dVar_n28 {a0 : Option DV} {a1 : Option DV} {a2 : Option DV} {a3 : Option DV} {a4 : Option DV} {a5 : Option DV} {a6 : Option DV} {a7 : Option DV} {a8 : Option DV} {a9 : Option DV} {a10 : Option DV} {a11 : Option DV} {a12 : Option DV} {a13 : Option DV} {a14 : Option DV} {a15 : Option DV} {a16 : Option DV} {a17 : Option DV} {a18 : Option DV} {a19 : Option DV} {a20 : Option DV} {a21 : Option DV} {a22 : Option DV} {a23 : Option DV} {a24 : Option DV} {a25 : Option DV} {a26 : Option DV} {a27 : Option DV} {x : DV} {r : DSt} {O : Own} {Q : DVK} : dVar 28 (a0 :: a1 :: a2 :: a3 :: a4 :: a5 :: a6 :: a7 :: a8 :: a9 :: a10 :: a11 :: a12 :: a13 :: a14 :: a15 :: a16 :: a17 :: a18 :: a19 :: a20 :: a21 :: a22 :: a23 :: a24 :: a25 :: a26 :: a27 :: some x :: r) O Q = Q x O := rfl
theorem dgName_n28 {a0 : Option DV} {a1 : Option DV} {a2 : Option DV} {a3 : Option DV} {a4 : Option DV} {a5 : Option DV} {a6 : Option DV} {a7 : Option DV} {a8 : Option DV} {a9 : Option DV} {a10 : Option DV} {a11 : Option DV} {a12 : Option DV} {a13 : Option DV} {a14 : Option DV} {a15 : Option DV} {a16 : Option DV} {a17 : Option DV} {a18 : Option DV} {a19 : Option DV} {a20 : Option DV} {a21 : Option DV} {a22 : Option DV} {a23 : Option DV} {a24 : Option DV} {a25 : Option DV} {a26 : Option DV} {a27 : Option DV} {x : DV} {y : Option DV} {r : DSt} {O : Own} {Q : DSt → Own → Prop} : dgName 28 x (a0 :: a1 :: a2 :: a3 :: a4 :: a5 :: a6 :: a7 :: a8 :: a9 :: a10 :: a11 :: a12 :: a13 :: a14 :: a15 :: a16 :: a17 :: a18 :: a19 :: a20 :: a21 :: a22 :: a23 :: a24 :: a25 :: a26 :: a27 :: y :: r) O Q = Q (a0 :: a1 :: a2 :: a3 :: a4 :: a5 :: a6 :: a7 :: a8 :: a9 :: a10 :: a11 :: a12 :: a13 :: a14 :: a15 :: a16 :: a17 :: a18 :: a19 :: a20 :: a21 :: a22 :: a23 :: a24 :: a25 :: a26 :: a27 :: some x :: r) O := rfl
theorem obind_n28 {a0 : Option DV} {a1 : Option DV} {a2 : Option DV} {a3 : Option DV} {a4 : Option DV} {a5 : Option DV} {a6 : Option DV} {a7 : Option DV} {a8 : Option DV} {a9 : Option DV} {a10 : Option DV} {a11 : Option DV} {a12 : Option DV} {a13 : Option DV} {a14 : Option DV} {a15 : Option DV} {a16 : Option DV} {a17 : Option DV} {a18 : Option DV} {a19 : Option DV} {a20 : Option DV} {a21 : Option DV} {a22 : Option DV} {a23 : Option DV} {a24 : Option DV} {a25 : Option DV} {a26 : Option DV} {a27 : Option DV} {x : DV} {y : Option DV} {r : DSt} {K : DSt → Prop} : onSome (bind1 28 x (a0 :: a1 :: a2 :: a3 :: a4 :: a5 :: a6 :: a7 :: a8 :: a9 :: a10 :: a11 :: a12 :: a13 :: a14 :: a15 :: a16 :: a17 :: a18 :: a19 :: a20 :: a21 :: a22 :: a23 :: a24 :: a25 :: a26 :: a27 :: y :: r)) K = K (a0 :: a1 :: a2 :: a3 :: a4 :: a5 :: a6 :: a7 :: a8 :: a9 :: a10 :: a11 :: a12 :: a13 :: a14 :: a15 :: a16 :: a17 :: a18 :: a19 :: a20 :: a21 :: a22 :: a23 :: a24 :: a25 :: a26 :: a27 :: some x :: r) := rfl
theorem oslot_n28 {a0 : Option DV} {a1 : Option DV} {a2 : Option DV} {a3 : Option DV} {a4 : Option DV} {a5 : Option DV} {a6 : Option DV} {a7 : Option DV} {a8 : Option DV} {a9 : Option DV} {a10 : Option DV} {a11 : Option DV} {a12 : Option DV} {a13 : Option DV} {a14 : Option DV} {a15 : Option DV} {a16 : Option DV} {a17 : Option DV} {a18 : Option DV} {a19 : Option DV} {a20 : Option DV} {a21 : Option DV} {a22 : Option DV} {a23 : Option DV} {a24 : Option DV} {a25 : Option DV} {a26 : Option DV} {a27 : Option DV} {x : DV} {r : DSt} {K : DV → Prop} : onSome (slot (a0 :: a1 :: a2 :: a3 :: a4 :: a5 :: a6 :: a7 :: a8 :: a9 :: a10 :: a11 :: a12 :: a13 :: a14 :: a15 :: a16 :: a17 :: a18 :: a19 :: a20 :: a21 :: a22 :: a23 :: a24 :: a25 :: a26 :: a27 :: some x :: r) 28) K = K x := rfl
theorem dVar_n29 {a0 : Option DV} {a1 : Option DV} {a2 : Option DV} {a3 : Option DV} {a4 : Option DV} {a5 : Option DV} {a6 : Option DV} {a7 : Option DV} {a8 : Option DV} {a9 : Option DV} {a10 : Option DV} {a11 : Option DV} {a12 : Option DV} {a13 : Option DV} {a14 : Option DV} {a15 : Option DV} {a16 : Option DV} {a17 : Option DV} {a18 : Option DV} {a19 : Option DV} {a20 : Option DV} {a21 : Option DV} {a22 : Option DV} {a23 : Option DV} {a24 : Option DV} {a25 : Option DV} {a26 : Option DV} {a27 : Option DV} {a28 : Option DV} {x : DV} {r : DSt} {O : Own} {Q : DVK} : dVar 29 (a0 :: a1 :: a2 :: a3 :: a4 :: a5 :: a6 :: a7 :: a8 :: a9 :: a10 :: a11 :: a12 :: a13 :: a14 :: a15 :: a16 :: a17 :: a18 :: a19 :: a20 :: a21 :: a22 :: a23 :: a24 :: a25 :: a26 :: a27 :: a28 :: some x :: r) O Q = Q x O := rfl
theorem dgName_n29 {a0 : Option DV} {a1 : Option DV} {a2 : Option DV} {a3 : Option DV} {a4 : Option DV} {a5 : Option DV} {a6 : Option DV} {a7 : Option DV} {a8 : Option DV} {a9 : Option DV} {a10 : Option DV} {a11 : Option DV} {a12 : Option DV} {a13 : Option DV} {a14 : Option DV} {a15 : Option DV} {a16 : Option DV} {a17 : Option DV} {a18 : Option DV} {a19 : Option DV} {a20 : Option DV} {a21 : Option DV} {a22 : Option DV} {a23 : Option DV} {a24 : Option DV} {a25 : Option DV} {a26 : Option DV} {a27 : Option DV} {a28 : Option DV} {x : DV} {y : Option DV} {r : DSt} {O : Own} {Q : DSt → Own → Prop} : dgName 29 x (a0 :: a1 :: a2 :: a3 :: a4 :: a5 :: a6 :: a7 :: a8 :: a9 :: a10 :: a11 :: a12 :: a13 :: a14 :: a15 :: a16 :: a17 :: a18 :: a19 :: a20 :: a21 :: a22 :: a23 :: a24 :: a25 :: a26 :: a27 :: a28 :: y :: r) O Q = Q (a0 :: a1 :: a2 :: a3 :: a4 :: a5 :: a6 :: a7 :: a8 :: a9 :: a10 :: a11 :: a12 :: a13 :: a14 :: a15 :: a16 :: a17 :: a18 :: a19 :: a20 :: a21 :: a22 :: a23 :: a24 :: a25 :: a26 :: a27 :: a28 :: some x :: r) O := rfl
theorem obind_n29 {a0 : Option DV} {a1 : Option DV} {a2 : Option DV} {a3 : Option DV} {a4 : Option DV} {a5 : Option DV} {a6 : Option DV} {a7 : Option DV} {a8 : Option DV} {a9 : Option DV} {a10 : Option DV} {a11 : Option DV} {a12 : Option DV} {a13 : Option DV} {a14 : Option DV} {a15 : Option DV} {a16 : Option DV} {a17 : Option DV} {a18 : Option DV} {a19 : Option DV} {a20 : Option DV} {a21 : Option DV} {a22 : Option DV} {a23 : Option DV} {a24 : Option DV} {a25 : Option DV} {a26 : Option DV} {a27 : Option DV} {a28 : Option DV} {x : DV} {y : Option DV} {r : DSt} {K : DSt → Prop} : onSome (bind1 29 x (a0 :: a1 :: a2 :: a3 :: a4 :: a5 :: a6 :: a7 :: a8 :: a9 :: a10 :: a11 :: a12 :: a13 :: a14 :: a15 :: a16 :: a17 :: a18 :: a19 :: a20 :: a21 :: a22 :: a23 :: a24 :: a25 :: a26 :: a27 :: a28 :: y :: r)) K = K (a0 :: a1 :: a2 :: a3 :: a4 :: a5 :: a6 :: a7 :: a8 :: a9 :: a10 :: a11 :: a12 :: a13 :: a14 :: a15 :: a16 :: a17 :: a18 :: a19 :: a20 :: a21 :: a22 :: a23 :: a24 :: a25 :: a26 :: a27 :: a28 :: some x :: r) := rfl
theorem oslot_n29 {a0 : Option DV} {a1 : Option DV} {a2 : Option DV} {a3 : Option DV} {a4 : Option DV} {a5 : Option DV} {a6 : Option DV} {a7 : Option DV} {a8 : Option DV} {a9 : Option DV} {a10 : Option DV} {a11 : Option DV} {a12 : Option DV} {a13 : Option DV} {a14 : Option DV} {a15 : Option DV} {a16 : Option DV} {a17 : Option DV} {a18 : Option DV} {a19 : Option DV} {a20 : Option DV} {a21 : Option DV} {a22 : Option DV} {a23 : Option DV} {a24 : Option DV} {a25 : Option DV} {a26 : Option DV} {a27 : Option DV} {a28 : Option DV} {x : DV} {r : DSt} {K : DV → Prop} : onSome (slot (a0 :: a1 :: a2 :: a3 :: a4 :: a5 :: a6 :: a7 :: a8 :: a9 :: a10 :: a11 :: a12 :: a13 :: a14 :: a15 :: a16 :: a17 :: a18 :: a19 :: a20 :: a21 :: a22 :: a23 :: a24 :: a25 :: a26 :: a27 :: a28 :: some x :: r) 29) K = K x := rfl
theorem isiM_int : ("int" ∈ ["int", "str", "bool", "list", "tuple", "dict"]) = True := by decide
theorem subTy_NoneType_int : subTy "NoneType" "int" = false := rfl
theorem subTy_bool_int : subTy "bool" "int" = true := rfl
theorem subTy_int_int : subTy "int" "int" = true := rfl
theorem subTy_str_int : subTy "str" "int" = false := rfl
theorem subTy_tuple_int : subTy "tuple" "int" = false := rfl
theorem subTy_list_int : subTy "list" "int" = false := rfl
theorem subTy_dict_int : subTy "dict" "int" = false := rfl
theorem isiM_str : ("str" ∈ ["int", "str", "bool", "list", "tuple", "dict"]) = True := by decide
theorem subTy_NoneType_str : subTy "NoneType" "str" = false := rfl
theorem subTy_bool_str : subTy "bool" "str" = false := rfl
theorem subTy_int_str : subTy "int" "str" = false := rfl
theorem subTy_str_str : subTy "str" "str" = true := rfl
theorem subTy_tuple_str : subTy "tuple" "str" = false := rfl
theorem subTy_list_str : subTy "list" "str" = false := rfl
theorem subTy_dict_str : subTy "dict" "str" = false := rfl
theorem isiM_bool : ("bool" ∈ ["int", "str", "bool", "list", "tuple", "dict"]) = True := by decide
theorem subTy_NoneType_bool : subTy "NoneType" "bool" = false := rfl
theorem subTy_bool_bool : subTy "bool" "bool" = true := rfl
theorem subTy_int_bool : subTy "int" "bool" = false := rfl
theorem subTy_str_bool : subTy "str" "bool" = false := rfl
theorem subTy_tuple_bool : subTy "tuple" "bool" = false := rfl
theorem subTy_list_bool : subTy "list" "bool" = false := rfl
theorem subTy_dict_bool : subTy "dict" "bool" = false := rfl
theorem isiM_list : ("list" ∈ ["int", "str", "bool", "list", "tuple", "dict"]) = True := by decide
theorem subTy_NoneType_list : subTy "NoneType" "list" = false := rfl
theorem subTy_bool_list : subTy "bool" "list" = false := rfl
theorem subTy_int_list : subTy "int" "list" = false := rfl
theorem subTy_str_list : subTy "str" "list" = false := rfl
theorem subTy_tuple_list : subTy "tuple" "list" = false := rfl
theorem subTy_list_list : subTy "list" "list" = true := rfl
theorem subTy_dict_list : subTy "dict" "list" = false := rfl
theorem isiM_tuple : ("tuple" ∈ ["int", "str", "bool", "list", "tuple", "dict"]) = True := by decide
theorem subTy_NoneType_tuple : subTy "NoneType" "tuple" = false := rfl
theorem subTy_bool_tuple : subTy "bool" "tuple" = false := rfl
theorem subTy_int_tuple : subTy "int" "tuple" = false := rfl
theorem subTy_str_tuple : subTy "str" "tuple" = false := rfl
theorem subTy_tuple_tuple : subTy "tuple" "tuple" = true := rfl
theorem subTy_list_tuple : subTy "list" "tuple" = false := rfl
theorem subTy_dict_tuple : subTy "dict" "tuple" = false := rfl
theorem isiM_dict : ("dict" ∈ ["int", "str", "bool", "list", "tuple", "dict"]) = True := by decide
theorem subTy_NoneType_dict : subTy "NoneType" "dict" = false := rfl
theorem subTy_bool_dict : subTy "bool" "dict" = false := rfl
theorem subTy_int_dict : subTy "int" "dict" = false := rfl
theorem subTy_str_dict : subTy "str" "dict" = false := rfl
theorem subTy_tuple_dict : subTy "tuple" "dict" = false := rfl
theorem subTy_list_dict : subTy "list" "dict" = false := rfl
theorem subTy_dict_dict : subTy "dict" "dict" = true := rfl
theorem isNon_tup {xs : _} : isNon (.tup xs) = false := rfl
theorem isNon_lst {xs : _} : isNon (.lst xs) = false := rfl
theorem isNon_stup {xs : _} : isNon (.stup xs) = false := rfl
theorem isNon_slst {xs : _} : isNon (.slst xs) = false := rfl
theorem isNon_str {xs : _} : isNon (.str xs) = false := rfl
theorem isNon_int {xs : _} : isNon (.int xs) = false := rfl
theorem isNon_bl {xs : _} : isNon (.bl xs) = false := rfl
theorem isNon_ref {xs : _} : isNon (.ref xs) = false := rfl
theorem isNon_dK {xs : _} : isNon (.dK xs) = false := rfl
theorem isNon_dT {xs : _} : isNon (.dT xs) = false := rfl
end DL

set_option Elab.async false
set_option linter.all false
set_option maxRecDepth 100000
/-! DExtra: more rules over data. -/
namespace DL
open PySem PySem.Spec PyProof.Rows L2 TL
variable {XW : DXK}
/-- xs + ys, the new list is owned -/
def dAddO (x y : DV) (O : Own) (Q : DVK) : Prop := lstQ O x fun xs => lstQ O y fun ys => xs.length + ys.length ≤ sizeLine ∧ ∀ p, O p = none → Q (.ref p) (oset O p (.lst (xs ++ ys)))
theorem od_addO {X : Cx} : OpD X (binaryOp .Add) dAddO := by
  refine ⟨fun g0 => OpR_imp op_cat ?_⟩
  rintro x y H VQ ⟨F, O, dx, dy, Q, rs, rx, ry, h, fin⟩
  obtain ⟨xs, e1, h⟩ := lstQ_ex h
  obtain ⟨ys, e2, h⟩ := lstQ_ex h
  obtain ⟨a, vs, rfl, h1, r1⟩ := lstOf_at rs rx e1
  obtain ⟨b, ws, rfl, h2, r2⟩ := lstOf_at rs ry e2
  refine ⟨a, b, vs, ws, rfl, rfl, h1, h2, by rw [r1.len, r2.len]; exact h.1, fun p hp => ?_⟩
  have s := rs.newO hp (o := .lst (vs ++ ws)) (c := .lst (xs ++ ys)) ⟨_, upd_same, r1.append r2⟩
  exact fin _ _ (h.2 p (rs.free hp).2) _ _ _ s (.ref p)
theorem forW_inv {g : DTG} {tb : DTS} {D : DEnds} (I : Nat → DSt → Own → Prop) {ds : List DV} {S : DSt} {O : Own} (h0 : I 0 S O)
    (step : ∀ (i : Nat) (S : DSt) (O : Own) (d : DV) (nx : DSt → Own → Prop), ds[i]? = some d → I i S O → (∀ S' O', I (i + 1) S' O' → nx S' O') → g d S O fun S2 O2 => tb { D with nx := nx, ct := nx, bk := D.nx } S2 O2)
    (done : ∀ S O, I ds.length S O → D.nx S O) : forW g tb D ds S O :=
  forW_by (α := DSt × Own) (fun x => x.1) (fun x => x.2) ds (fun i x => I i x.1 x.2) (fun i x d nx e h hn => step i x.1 x.2 d nx e h fun S' O' h' => hn (S', O') h') (fun x h => done x.1 x.2 h) (S, O) rfl rfl h0
/-- a comprehension with a test, over what is made of a list -/
theorem lcW_filtM {α : Type} {ow : Bool} {b : DV → DSt → Option DSt} {tt : DTT} {te : DTE} {S : DSt} {Q : DVK} {O : Own} (f g : α → DV) (p : α → Bool) : ∀ (ks : List α) (acc : List DV),
    (∀ k ∈ ks, ∀ K : Bool → Own → Prop, K (p k) O → onSome (b (f k) S) fun S2 => tt S2 O K) → (∀ k ∈ ks, p k = true → ∀ K : DVK, K (g k) O → onSome (b (f k) S) fun S2 => te S2 O K) → acc.length + ks.length < 16000000 →
    endLc ow Q (acc ++ (ks.filter p).map g) O → lcW ow b tt te S Q (ks.map f) acc O
  | [], acc, _, _, _, h => by rw [List.filter_nil, List.map_nil, List.append_nil] at h; exact h
  | k :: ks, acc, h1, h2, hl, h => by
    rw [List.length_cons] at hl
    rw [List.map_cons]
    unfold lcW
    have hS2 : ∃ S2, b (f k) S = some S2 := by
      obtain ⟨S2, e, _⟩ := onSome_ex (h1 k List.mem_cons_self (fun _ _ => True) trivial)
      exact ⟨S2, e⟩
    obtain ⟨S2, e⟩ := hS2
    have t1 : ∀ K : Bool → Own → Prop, K (p k) O → tt S2 O K := fun K hK => by
      obtain ⟨S3, e3, h3⟩ := onSome_ex (h1 k List.mem_cons_self K hK)
      rw [e] at e3; cases e3; exact h3
    refine onSome_of e (t1 _ ?_)
    cases hp : p k with
    | true =>
      have t2 : ∀ K : DVK, K (g k) O → te S2 O K := fun K hK => by
        obtain ⟨S3, e3, h3⟩ := onSome_ex (h2 k List.mem_cons_self hp K hK)
        rw [e] at e3; cases e3; exact h3
      rw [if_pos rfl]
      refine t2 _ ⟨by omega, lcW_filtM f g p ks _ (fun k hk => h1 k (List.mem_cons_of_mem _ hk)) (fun k hk => h2 k (List.mem_cons_of_mem _ hk)) (by rw [List.length_append]; simp; omega) ?_⟩
      rw [List.filter_cons_of_pos hp] at h
      rw [List.append_assoc]; exact h
    | false =>
      rw [if_neg (by decide)]
      refine lcW_filtM f g p ks _ (fun k hk => h1 k (List.mem_cons_of_mem _ hk)) (fun k hk => h2 k (List.mem_cons_of_mem _ hk)) (by omega) ?_
      rw [List.filter_cons_of_neg (by rw [hp]; decide)] at h
      exact h
/-- .. without a test -/
theorem lcW_map {α : Type} {ow : Bool} {b : DV → DSt → Option DSt} {te : DTE} {S : DSt} {Q : DVK} {O : Own} (f g : α → DV) (ks : List α) (acc : List DV)
    (h2 : ∀ k ∈ ks, ∀ K : DVK, K (g k) O → onSome (b (f k) S) fun S2 => te S2 O K) (hl : acc.length + ks.length < 16000000) (h : endLc ow Q (acc ++ ks.map g) O) : lcW ow b dYes te S Q (ks.map f) acc O := by
  refine lcW_pure _ (ks.map g) acc (by simp) (by simpa using hl) (fun i x y e1 e2 K hK => ?_) h
  rw [List.getElem?_map] at e1 e2
  cases e0 : ks[i]? with
  | none => rw [e0] at e1; cases e1
  | some k =>
    rw [e0] at e1 e2; cases e1; cases e2
    exact h2 k (List.mem_of_getElem? e0) K hK
/-- [y for x in xs for y in g(x)] -/
theorem lc2W_flat {α : Type} {ow : Bool} {b b1 : DV → DSt → Option DSt} {di1 : DTI} {te : DTE} {vs1 : List Nat} {S : DSt} {Q : DVK} {O : Own} (f : α → DV) (g : α → List DV) (m : Nat) : ∀ (ks : List α) (acc : List DV),
    (∀ k ∈ ks, (g k).length ≤ m) → (∀ k ∈ ks, ∀ K : List DV → Own → Prop, K (g k) O → onSome (b (f k) S) fun S2 => di1 S2 O K) →
    (∀ k ∈ ks, ∀ S2, b (f k) S = some S2 → ∀ y ∈ g k, ∀ K : DVK, K y O → onSome (b1 y (dwipe S2 vs1)) fun S3 => te S3 O K) → acc.length + ks.length * m < 16000000 →
    endLc ow Q (acc ++ ks.flatMap g) O → lc2W ow b dYes di1 b1 dYes te vs1 S Q (ks.map f) acc O
  | [], acc, _, _, _, _, h => by rw [List.flatMap_nil, List.append_nil] at h; exact h
  | k :: ks, acc, hm, h1, h2, hl, h => by
    rw [List.length_cons, Nat.add_mul, Nat.one_mul] at hl
    have hg := hm k List.mem_cons_self
    rw [List.map_cons]
    unfold lc2W
    obtain ⟨S2, e, _⟩ := onSome_ex (h1 k List.mem_cons_self (fun _ _ => True) trivial)
    refine onSome_of e ?_
    unfold dYes
    dsimp only
    rw [if_pos rfl]
    have t1 : ∀ K : List DV → Own → Prop, K (g k) O → di1 S2 O K := fun K hK => by
      obtain ⟨S3, e3, h3⟩ := onSome_ex (h1 k List.mem_cons_self K hK)
      rw [e] at e3; cases e3; exact h3
    refine t1 _ ?_
    refine lcG_pure (g k) (g k) acc rfl (by omega) (fun i x y e1 e2 K hK => ?_) ?_
    · rw [e1] at e2; cases e2
      exact h2 k List.mem_cons_self S2 e _ (List.mem_of_getElem? e1) K hK
    · refine lc2W_flat f g m ks _ (fun k hk => hm k (List.mem_cons_of_mem _ hk)) (fun k hk => h1 k (List.mem_cons_of_mem _ hk)) (fun k hk => h2 k (List.mem_cons_of_mem _ hk)) (by rw [List.length_append]; omega) ?_
      rw [List.append_assoc]
      rwa [List.flatMap_cons] at h
/-- a statement that goes on with all as it was, or leaves -/
theorem seq_keep {t u : DTS} {D : DEnds} {S : DSt} {O : Own} (h1 : u D S O) (h2 : ∀ R : DSt → Own → Prop, R S O → t { D with nx := R } S O) : dSeq t u D S O := h2 _ h1
theorem seq_keep_ {t u : DTS} {D : DEnds} {S : DSt} {O : Own} (h2 : ∀ R : DSt → Own → Prop, R S O → t { D with nx := R } S O) (h1 : u D S O) : dSeq t u D S O := h2 _ h1
theorem seq_keepP {P : Prop} {t u : DTS} {D : DEnds} {S : DSt} {O : Own} (h2 : ∀ R : DSt → Own → Prop, (P → R S O) → t { D with nx := R } S O) (h1 : P → u D S O) : dSeq t u D S O := h2 _ h1
theorem cutD_tail {x : DV} {xs : List DV} : cutD (x :: xs) (some 1) none = xs := by
  unfold cutD
  have e1 : HT.sIx (x :: xs).length 0 (some 1) = 1 := by
    have : HT.sIx (x :: xs).length 0 (some 1) = min 1 (xs.length + 1) := rfl
    rw [this]; omega
  have e2 : HT.sIx (x :: xs).length (x :: xs).length none = (x :: xs).length := rfl
  rw [e1, e2, List.drop_succ_cons, List.drop_zero]
  exact List.take_of_length_le (by rw [List.length_cons]; omega)
/-- the frame -/
def Fr (O O' : Own) (as : List Addr) : Prop := ∀ b, b ∉ as → O b ≠ none → O' b = O b
theorem Fr.at {O O' : Own} {as : List Addr} (h : Fr O O' as) {b : Addr} {c : Cell} (hb : O b = some c) (hn : b ∉ as) : O' b = some c := by rw [h b hn (by rw [hb]; simp), hb]
theorem Fr.refl {O : Own} {as : List Addr} : Fr O O as := fun _ _ _ => rfl
theorem Fr.trans {O O' O2 : Own} {as : List Addr} (h : Fr O O' as) (h2 : Fr O' O2 as) : Fr O O2 as := fun b hb ho => by
  have e := h b hb ho
  rw [h2 b hb (by rw [e]; exact ho), e]
theorem Fr.wk {O O' : Own} {as bs : List Addr} (h : Fr O O' as) (hs : ∀ a ∈ as, a ∈ bs) : Fr O O' bs := fun b hb ho => h b (fun q => hb (hs b q)) ho
theorem Fr.set {O O' : Own} {as : List Addr} {a : Addr} {c : Cell} (h : Fr O O' as) (ha : a ∈ as ∨ O a = none) : Fr O (oset O' a c) as := fun b hb ho => by
  have hne : b ≠ a := by
    rintro rfl
    rcases ha with ha | ha
    · exact hb ha
    · exact ho ha
  rw [oset_ne hne]; exact h b hb ho
theorem Fr.del {O O' : Own} {as : List Addr} {a : Addr} (h : Fr O O' as) (ha : a ∈ as ∨ O a = none) : Fr O (odel O' a) as := fun b hb ho => by
  have hne : b ≠ a := by
    rintro rfl
    rcases ha with ha | ha
    · exact hb ha
    · exact ho ha
  rw [odel_ne hne]; exact h b hb ho
theorem Fr.none {O O' : Own} {as : List Addr} (h : Fr O O' as) {b : Addr} (hb : O' b = none) (hn : b ∉ as) : O b = none := by
  cases e : O b with
  | none => rfl
  | some c => rw [h.at e hn] at hb; cases hb
theorem ne_of {O : Own} {a p : Addr} {c : Cell} (h : O a = some c) (hp : O p = none) : a ≠ p := by
  rintro rfl; rw [h] at hp; cases hp
end DL

set_option Elab.async false
set_option linter.all false
set_option maxRecDepth 100000
/-! DOwn: a comprehension over a list that is owned and stays as it is. -/
namespace DL
open PySem PySem.Spec PyProof.Rows L2 TL
variable {XW : DXK}
theorem yield_own {K : KG} {F2 H : Hp} {O : Own} {p : Addr} {ds : List DV} (rs : RS K F2 O H) (e : O p = some (.lst ds)) (i : Nat) :
    (∀ d, ds[i]? = some d → (Itl K p).go i H ∧ ∀ x H', (Itl K p).yld i H x H' → ∃ F3, Stp K F2 O H F3 O H' ∧ Rep K F3 x d) ∧ (ds.length ≤ i → (Itl K p).stop i H) := by
  obtain ⟨_, vs, h1, r⟩ := rs.own p _ e
  have h0 : SqL K H p vs := SqL.of h1
  refine ⟨fun d e => ?_, fun e => ⟨vs, h0, by rw [r.len]; exact e⟩⟩
  obtain ⟨v, hv, h2⟩ := r.get e
  refine ⟨⟨vs, v, h0, hv⟩, fun x H' ⟨q1, q2⟩ => ?_⟩
  subst q1
  have := q2 vs h0
  rw [hv] at this; cases this
  exact ⟨F2, .refl rs, h2⟩
def lcWO (ow : Bool) (p : Addr) (all : List DV) (b : DV → DSt → Option DSt) (tt : DTT) (te : DTE) (S : DSt) (Q : DVK) : List DV → List DV → Own → Prop
  | [], acc, O => O p = some (.lst all) ∧ endLc ow Q acc O
  | x :: r, acc, O => O p = some (.lst all) ∧ onSome (b x S) fun S2 => tt S2 O fun c O2 => if c = true then te S2 O2 fun y O3 => acc.length < 16000000 ∧ lcWO ow p all b tt te S Q r (acc ++ [y]) O3 else lcWO ow p all b tt te S Q r acc O2
def dLcO (ow : Bool) (td : DTE) (b : DV → DSt → Option DSt) (tt : DTT) (te : DTE) (vs : List Nat) (S : DSt) (O : Own) (Q : DVK) : Prop := td S O (kRef fun p O1 => onL (O1 p) fun all => lcWO ow p all b tt te (dwipe S vs) Q all [] O1)
theorem liftLcO {K : KG} {ow : Bool} {td : DTE} {g : TG} {b : DV → DSt → Option DSt} {tt : DTT} {te : DTE} {vs : List Nat} (hg : TgtOk K.f g b vs) {σ : L2.St} {H : Hp} {VQ : VK} (h : liftE K (dLcO ow td b tt te vs) σ H VQ) :
    tLc (iList K (liftE K td)) g (liftT ⟨K.f, X0, L2.E0⟩ tt) (liftE ⟨K.f, X0, L2.E0⟩ te) vs σ H VQ := by
  obtain ⟨F, O, S, Q, rs, sr, h, fin⟩ := h
  refine ⟨F, O, S, _, rs, sr, h, fun dv O1 h1 v H1 F1 s1 rv => ?_⟩
  unfold kRef at h1
  split at h1
  · rename_i p
    cases rv
    obtain ⟨ds, ep, h1⟩ := onL_ex h1
    obtain ⟨_, vp, hp1, rp⟩ := s1.rs.own p _ ep
    refine ⟨p, rfl, ⟨vp, SqL.of hp1⟩, fun D hD => ?_⟩
    obtain ⟨hf1, ho1⟩ := s1.rs.free hD
    refine ⟨fun i m H' => m = ds.length - i ∧ ∃ F' O' acc vacc, Stp K F1 O1 H1 F' O' H' ∧ H' D = some (.lst vacc) ∧ F' D = none ∧ O' D = none ∧ Reps K F' vacc acc ∧ lcWO ow p ds b tt te (dwipe S vs) Q (ds.drop i) acc O',
      ⟨_, rfl, F1, O1, [], [], (Stp.refl s1.rs).side s1.rs hD hf1 ho1 _, upd_same, hf1, ho1, .nil, h1⟩, ?_⟩
    rintro i m H' ⟨em, F', O', acc, vacc, s', hd', hf', ho', ra, h'⟩
    by_cases hi : i < ds.length
    · have e0 : ds[i]? = some ds[i] := List.getElem?_eq_getElem hi
      rw [List.drop_eq_getElem_cons hi] at h'
      unfold lcWO at h'
      obtain ⟨hown, h'⟩ := h'
      obtain ⟨y1, y2⟩ := yield_own s'.rs hown i
      obtain ⟨hgo, hy⟩ := y1 _ e0
      refine .inr ⟨hgo, fun H2 => ∃ F' O' acc vacc, Stp K F1 O1 H1 F' O' H2 ∧ H2 D = some (.lst vacc) ∧ F' D = none ∧ O' D = none ∧ Reps K F' vacc acc ∧ lcWO ow p ds b tt te (dwipe S vs) Q (ds.drop (i + 1)) acc O', fun H2 q => ⟨_, ?_, rfl, q⟩, fun x H2 q => ?_⟩
      · omega
      · obtain ⟨F3, s3, r3⟩ := hy x H2 q
        obtain ⟨S2, e2, h'⟩ := onSome_ex h'
        · refine hg.ok s3.rs.z r3 (((sr.mono s1.sub).mono s'.sub).mono s3.sub |>.wipe vs) e2 fun σ2 sr2 ew => ⟨ew.trans (wipe_wipe fun _ h => h), F3, O', S2, _, s3.rs.drop, sr2, h', fun c O4 h4 H4 F4 s4' => ?_⟩
          have s4 := s4'.up s3.rs
          have st4 := s3.trans s4
          dsimp only at h4 ⊢
          split
          · rename_i e; rw [if_pos e] at h4
            refine ⟨F4, O4, S2, _, s4.rs.drop, sr2.mono s4.sub, h4, fun d O5 h5 v H5 F5 s5' r5 => ?_⟩
            have s5 := s5'.up s4.rs
            have st5 := st4.trans s5
            obtain ⟨k1, k2⟩ := st5.keep D _ hd' ho'
            have k3 := st5.nof D _ hd' ho' hf'
            exact ⟨vacc, k1, by rw [ra.len]; exact lc_line h5.1, F5, O5, _, _, (s'.trans st5).side s1.rs hD k3 k2 _, upd_same, k3, k2, (ra.mono st5.sub).append (.cons r5 .nil), h5.2⟩
          · rename_i e; rw [if_neg e] at h4
            obtain ⟨k1, k2⟩ := st4.keep D _ hd' ho'
            have k3 := st4.nof D _ hd' ho' hf'
            exact ⟨F4, O4, acc, vacc, s'.trans st4, k1, k3, k2, ra.mono st4.sub, h4⟩
    · rw [List.drop_eq_nil_of_le (by omega)] at h'
      unfold lcWO at h'
      exact .inl ⟨(yield_own s'.rs h'.1 i).2 (by omega), endLc_ok s1.rs s' hD hd' hf' ho' ra h'.2 (fin.step s1)⟩
  · exact h1.elim
section
variable {X : Cx}
theorem de_lcO (ow : Bool) {elt tg iter : Expr} {ifs : List Expr} {scope : Scope} {own : List (Str × Nat)} {pos : Pos} {td : DTE} {g : TG} {b : DV → DSt → Option DSt} {tt : DTT} {te : DTE} (hc : X.calm = true) (hN : X.N.Nodup) (hi : DE XW X iter td) (ok : BlkOk X.N X.env.scope scope own) (hT : TgtOk X.K g b (own.map (·.2)))
    (hg : ∀ (s : Shared) (H : Hp) (C : Addr) (cl : List (Str × Addr)) (fp : List Addr), PG (X.blk s H scope (compEnvC scope cl C X.env) fp) tg g) (ht : ∀ (s : Shared) (H : Hp) (C : Addr) (cl : List (Str × Addr)) (fp : List Addr), DTs X0 (X.blk s H scope (compEnvC scope cl C X.env) fp) ifs tt)
    (he : ∀ (s : Shared) (H : Hp) (C : Addr) (cl : List (Str × Addr)) (fp : List Addr), DE X0 (X.blk s H scope (compEnvC scope cl C X.env) fp) elt te) (hs : ∀ x, foldedSetIterable iter X.env x = pure x := by intro _; rfl) :
    DE XW X (.ListComp elt [⟨tg, iter, ifs, 0⟩] scope pos) (dLcO ow td b tt te (own.map (·.2))) :=
  ⟨fun g0 hg0 => PE_imp (pe_lc (te := liftE ⟨X.K, X0, L2.E0⟩ te) (tt := liftT ⟨X.K, X0, L2.E0⟩ tt) hc hN (pi_list (hi.pe g0 hg0)) ok hg (fun s H C cl fp => (ht s H C cl fp).pts (X0, L2.E0) (good_of (takesL) fun _ _ _ h => h)) (fun s H C cl fp => (he s H C cl fp).pe (X0, L2.E0) (good_of (takesL) fun _ _ _ h => h)) hs) fun _ _ _ h => liftLcO hT h⟩
end
/-- the reading, by an invariant -/
theorem lcWO_by {ow : Bool} {p : Addr} {all : List DV} {b : DV → DSt → Option DSt} {tt : DTT} {te : DTE} {S : DSt} {Q : DVK} (I : List DV → Own → Prop) : ∀ (xs acc : List DV) (O : Own), I acc O → acc.length + xs.length < 16000000 → (∀ acc O, I acc O → O p = some (.lst all)) →
    (∀ x ∈ xs, ∀ (acc : List DV) (O : Own) (R : DVK) (R2 : Own → Prop), I acc O → (∀ y O', I (acc ++ [y]) O' → R y O') → (∀ O', I acc O' → R2 O') → onSome (b x S) fun S2 => tt S2 O fun c O2 => if c = true then te S2 O2 R else R2 O2) →
    (∀ acc' O, I acc' O → acc'.length ≤ acc.length + xs.length → endLc ow Q acc' O) → lcWO ow p all b tt te S Q xs acc O
  | [], acc, O, h, _, hp, _, k => ⟨hp _ _ h, k acc O h (Nat.le_refl _)⟩
  | x :: xs, acc, O, h, hl, hp, hs, k => by
    rw [List.length_cons] at hl
    refine ⟨hp _ _ h, ?_⟩
    refine hs x List.mem_cons_self acc O _ _ h (fun y O' h' => ⟨by omega, ?_⟩) (fun O' h' => ?_)
    · exact lcWO_by I xs (acc ++ [y]) O' h' (by rw [List.length_append]; simp; omega) hp (fun x hx => hs x (List.mem_cons_of_mem _ hx)) (fun acc' O h2 h3 => k acc' O h2 (by rw [List.length_append] at h3; simp at h3 ⊢; omega))
    · exact lcWO_by I xs acc O' h' (by omega) hp (fun x hx => hs x (List.mem_cons_of_mem _ hx)) (fun acc' O h2 h3 => k acc' O h2 (by simp; omega))
theorem lcW_byL {ow : Bool} {b : DV → DSt → Option DSt} {te : DTE} {S : DSt} {Q : DVK} (N : Nat) (I : List DV → Own → Prop) : ∀ (xs acc : List DV) (O : Own), I acc O → acc.length + xs.length = N → N < 16000000 →
    (∀ x ∈ xs, ∀ (acc : List DV) (O : Own) (K : DVK), acc.length < N → I acc O → (∀ y O', I (acc ++ [y]) O' → K y O') → onSome (b x S) fun S2 => te S2 O K) →
    (∀ acc' O, I acc' O → acc'.length = N → endLc ow Q acc' O) → lcW ow b dYes te S Q xs acc O
  | [], acc, O, h, hn, _, _, k => k acc O h (by simpa using hn)
  | x :: xs, acc, O, h, hn, hl, hs, k => by
    unfold lcW
    rw [List.length_cons] at hn
    have h1 := hs x List.mem_cons_self acc O (fun y O3 => acc.length < 16000000 ∧ lcW ow b dYes te S Q xs (acc ++ [y]) O3) (by omega) h (fun y O' h' => ⟨by omega, lcW_byL N I xs (acc ++ [y]) O' h' (by rw [List.length_append]; simp; omega) hl (fun x hx => hs x (List.mem_cons_of_mem _ hx)) k⟩)
    obtain ⟨S2, e, h2⟩ := onSome_ex h1
    exact onSome_of e h2
/-- xs * k, the new list is owned -/
def kMulO (xs : List DV) (Q : DVK) : DV → Own → Prop
  | .int k, O => -(2 ^ 63) ≤ k ∧ k < 2 ^ 63 ∧ xs.length * k.toNat ≤ sizeLine ∧ ∀ p, O p = none → Q (.ref p) (oset O p (.lst (List.replicate k.toNat xs).flatten))
  | _, _ => False
theorem kMulO_e1 {xs : List DV} {Q : DVK} {k : Int} {O : Own} : kMulO xs Q (.int k) O = (-(2 ^ 63) ≤ k ∧ k < 2 ^ 63 ∧ xs.length * k.toNat ≤ sizeLine ∧ ∀ p, O p = none → Q (.ref p) (oset O p (.lst (List.replicate k.toNat xs).flatten))) := rfl
def dMulO (x y : DV) (O : Own) (Q : DVK) : Prop := lstQ O x fun xs => kMulO xs Q y O
theorem od_mulO {X : Cx} : OpD X (binaryOp .Mult) dMulO := by
  refine ⟨fun g0 => OpR_imp op_rep ?_⟩
  rintro x y H VQ ⟨F, O, dx, dy, Q, rs, rx, ry, h, fin⟩
  have h0 := lstQ_ex h
  clear h
  obtain ⟨xs, e, h⟩ := h0
  unfold kMulO at h
  split at h
  · rename_i k
    cases ry
    obtain ⟨a, vs, rfl, h1, r1⟩ := lstOf_at rs rx e
    refine ⟨a, k, vs, rfl, rfl, h1, h.1, h.2.1, by rw [r1.len]; exact h.2.2.1, fun p hp => ?_⟩
    have s := rs.newO hp (o := .lst (List.replicate k.toNat vs).flatten) (c := .lst (List.replicate k.toNat xs).flatten) ⟨_, upd_same, r1.rep _⟩
    exact fin _ _ (h.2.2.2 p (rs.free hp).2) _ _ _ s (.ref p)
  · exact h.elim
end DL

set_option Elab.async false
set_option linter.all false
set_option maxRecDepth 100000
/-! DObj: objects with fields, over data. -/
namespace DL
open PySem PySem.Spec PyProof.Rows L2 TL
variable {XW : DXK}
theorem kInt_ex {Q : Int → Own → Prop} {d : DV} {O : Own} (h : kInt Q d O) : ∃ i, d = .int i ∧ Q i O := by
  unfold kInt at h
  split at h
  · exact ⟨_, rfl, h⟩
  · exact h.elim
def onI (c : Option Cell) (C : Addr) (K : List (Str × DV) → Prop) : Prop :=
  match c with
  | some (.ins C' fs) => C' = C ∧ K fs
  | _ => False
theorem onI_e1 {C : Addr} {fs : List (Str × DV)} {K : List (Str × DV) → Prop} : onI (some (.ins C fs)) C K = K fs := by
  unfold onI; simp
theorem onI_ex {c : Option Cell} {C : Addr} {K : List (Str × DV) → Prop} (h : onI c C K) : ∃ fs, c = some (.ins C fs) ∧ K fs := by
  unfold onI at h
  split at h
  · obtain ⟨rfl, h⟩ := h; exact ⟨_, rfl, h⟩
  · exact h.elim
def dputF (f : Str) (v : DV) : List (Str × DV) → List (Str × DV)
  | [] => [(f, v)]
  | (g, x) :: r => if g = f then (g, v) :: r else (g, x) :: dputF f v r
section
variable {K : PySem.W.Frag} {F : Hp}
theorem RepF.lookup {f : Str} {d : DV} : ∀ {xs : List (Str × V)} {ys : List (Str × DV)}, RepF K F xs ys → ys.lookup f = some d → ∃ v, xs.lookup f = some v ∧ Rep K F v d
  | _, _, .nil, e => by simp at e
  | (g, x) :: xs, (g', y) :: ys, .cons h r, e => by
    obtain ⟨h1, h2⟩ := h
    dsimp only at h1 h2
    subst h1
    by_cases q : f = g
    · subst q
      rw [List.lookup_cons_self] at e ⊢
      cases e; exact ⟨_, rfl, h2⟩
    · have hb : (f == g) = false := beq_eq_false_iff_ne.mpr q
      simp only [List.lookup, hb] at e ⊢
      exact RepF.lookup r e
theorem RepF.lookN {f : Str} : ∀ {xs : List (Str × V)} {ys : List (Str × DV)}, RepF K F xs ys → ys.lookup f = none → xs.lookup f = none
  | _, _, .nil, e => rfl
  | (g, x) :: xs, (g', y) :: ys, .cons h r, e => by
    obtain ⟨h1, h2⟩ := h
    dsimp only at h1 h2
    subst h1
    by_cases q : f = g
    · subst q
      rw [List.lookup_cons_self] at e
      cases e
    · have hb : (f == g) = false := beq_eq_false_iff_ne.mpr q
      simp only [List.lookup, hb] at e ⊢
      exact RepF.lookN r e
theorem RepF.len : ∀ {xs : List (Str × V)} {ys : List (Str × DV)}, RepF K F xs ys → xs.length = ys.length
  | _, _, .nil => rfl
  | _, _, .cons _ r => by simp [RepF.len r]
theorem RepF.put {f : Str} {v : V} {d : DV} (hv : Rep K F v d) : ∀ {xs : List (Str × V)} {ys : List (Str × DV)}, RepF K F xs ys → RepF K F (putF f v xs) (dputF f d ys)
  | _, _, .nil => .cons ⟨rfl, hv⟩ .nil
  | (g, x) :: xs, (g', y) :: ys, .cons h r => by
    obtain ⟨h1, h2⟩ := h
    dsimp only at h1 h2
    subst h1
    unfold putF dputF
    by_cases q : g = f
    · rw [if_pos q, if_pos q]; exact .cons ⟨rfl, hv⟩ r
    · rw [if_neg q, if_neg q]; exact .cons ⟨rfl, h2⟩ (RepF.put hv r)
end
def dFld (C : Addr) (f : Str) (td : DTE) (S : DSt) (O : Own) (Q : DVK) : Prop := td S O (kRef fun a O1 => onI (O1 a) C fun fs => onSome (fs.lookup f) fun d => Q d O1)
def dSFld (C : Addr) (f : Str) (td tv : DTE) (D : DEnds) (S : DSt) (O : Own) : Prop := tv S O fun y O1 => td S O1 (kRef fun a O2 => onI (O2 a) C fun fs => fs.length < 1000 ∧ D.nx S (oset O2 a (.ins C (dputF f y fs))))
def dSFldI (C : Addr) (f : Str) (op : Int → Int → Int) (td tv : DTE) (D : DEnds) (S : DSt) (O : Own) : Prop := td S O (kRef fun a O1 => onI (O1 a) C fun fs => onSome (fs.lookup f) fun d => kInt (fun i O2 => tv S O2 (kInt fun j O3 => onI (O3 a) C fun fs' => fs'.length < 1000 ∧ D.nx S (oset O3 a (.ins C (dputF f (.int (op i j)) fs'))))) d O1)
def dMeth (C : Addr) (m : Str) (sp : DSp) (td : DTE) (t : DTA) (S : DSt) (O : Own) (Q : DVK) : Prop := td S O (kRef fun a O1 => onI (O1 a) C fun fs => fs.lookup m = none ∧ t S O1 fun ds O2 => callsp sp (.ref a :: ds) O2 Q X0)
def dMethX (XW : DXK) (C : Addr) (m : Str) (sp : DSp) (td : DTE) (t : DTA) (S : DSt) (O : Own) (Q : DVK) : Prop := td S O (kRef fun a O1 => onI (O1 a) C fun fs => fs.lookup m = none ∧ t S O1 fun ds O2 => callsp sp (.ref a :: ds) O2 Q XW)
def dMake (C : Addr) (sp : DSp) (t : DTA) (S : DSt) (O : Own) (Q : DVK) : Prop := t S O fun ds O1 => ∀ x, O1 x = none → callsp sp (.ref x :: ds) (oset O1 x (.ins C [])) (fun v O2 => v = .non ∧ Q (.ref x) O2) X0
def dMakeX (XW : DXK) (C : Addr) (sp : DSp) (t : DTA) (S : DSt) (O : Own) (Q : DVK) : Prop := t S O fun ds O1 => ∀ x, O1 x = none → callsp sp (.ref x :: ds) (oset O1 x (.ins C [])) (fun v O2 => v = .non ∧ Q (.ref x) O2) XW
section
variable {K : KG} {F H : Hp} {O : Own} {C : Addr} {f m : Str} {td tv : DTE} {t : DTA} {σ : L2.St} {VQ : VK} {sp : DSp}
theorem own_ins (rs : RS K F O H) {a : Addr} {fs : List (Str × DV)} (e : O a = some (.ins C fs)) : ∃ dx fvs, H a = some (.ins C dx fvs) ∧ RepF K F fvs fs := (rs.own a _ e).2
theorem liftFld (hC : Cls K.f C) (hn : NoAttr K.f C f) (h : liftE K (dFld C f td) σ H VQ) : tFld K.f (liftE K td) f σ H VQ := by
  obtain ⟨F, O, S, Q, rs, sr, h, fin⟩ := h
  refine ⟨F, O, S, _, rs, sr, h, fun dv O1 h1 v H1 F1 s1 rv => ?_⟩
  obtain ⟨a, rfl, h1⟩ := kRef_ex h1
  cases rv
  obtain ⟨fs, ef, h1⟩ := onI_ex h1
  obtain ⟨d, ed, h1⟩ := onSome_ex h1
  obtain ⟨dx, fvs, hp, rf⟩ := own_ins s1.rs ef
  obtain ⟨v, ev, rv⟩ := rf.lookup ed
  exact ⟨a, C, dx, fvs, v, rfl, hp, hC, hn, ev, fin _ _ h1 _ _ _ s1 rv⟩
theorem RS.fput (r : RS K F O H) {a dx : Addr} {fs : List (Str × DV)} {fvs : List (Str × V)} {v : V} {d : DV} (e : O a = some (.ins C fs)) (rf : RepF K F fvs fs) (rv : Rep K F v d) : Stp K F O H F (oset O a (.ins C (dputF f d fs))) (upd H a (.ins C dx (putF f v fvs))) :=
  r.write e ⟨_, _, upd_same, rf.put rv⟩
theorem liftSFld {VD : Ends} (hC : Cls K.f C) (hn : NoAttr K.f C f) (h : liftS K (dSFld C f td tv) VD σ H) : sFld K.f (liftE K td) (liftE K tv) f VD σ H := by
  obtain ⟨F, O, S, D, rs, sr, h, fin⟩ := h
  refine ⟨F, O, S, _, rs, sr, h, fun y O1 h1 v H1 F1 s1 rv => ⟨F1, O1, S, _, s1.rs, sr.mono s1.sub, h1, fun dv O2 h2 u H2 F2 s2 ru => ?_⟩⟩
  obtain ⟨a, rfl, h2⟩ := kRef_ex h2
  cases ru
  obtain ⟨fs, ef, hl, h2⟩ := onI_ex h2
  obtain ⟨dx, fvs, hp, rf⟩ := own_ins s2.rs ef
  have s3 := s2.rs.fput (f := f) (dx := dx) ef rf (rv.mono s2.sub)
  exact ⟨a, C, dx, fvs, rfl, hp, hC, hn, by rw [rf.len]; exact hl, fin.nx _ _ h2 _ _ _ ((s1.trans s2).trans s3) (sr.mono (s1.sub.trans s2.sub))⟩
theorem liftSFldI {VD : Ends} {op : Int → Int → Int} {rd : V → V → Hp → VK → Prop} (hrd : ∀ i j H Q, Q (.int (op i j)) H → rd (.int i) (.int j) H Q) (hC : Cls K.f C) (hn : NoAttr K.f C f) (h : liftS K (dSFldI C f op td tv) VD σ H) : sFldAug K.f (liftE K td) (liftE K tv) rd f VD σ H := by
  obtain ⟨F, O, S, D, rs, sr, h, fin⟩ := h
  refine ⟨F, O, S, _, rs, sr, h, fun y O1 h1 v H1 F1 s1 rv => ?_⟩
  obtain ⟨a, rfl, h1⟩ := kRef_ex h1
  cases rv
  obtain ⟨fs, ef, h1⟩ := onI_ex h1
  obtain ⟨d, ed, h1⟩ := onSome_ex h1
  obtain ⟨i, rfl, h1⟩ := kInt_ex h1
  obtain ⟨dx, fvs, hp, rf⟩ := own_ins s1.rs ef
  obtain ⟨v, ev, rv⟩ := rf.lookup ed
  cases rv
  refine ⟨a, C, dx, fvs, _, rfl, hp, hC, hn, ev, F1, O1, S, _, s1.rs, sr.mono s1.sub, h1, fun dv O2 h2 u H2 F2 s2 ru => ?_⟩
  obtain ⟨j, rfl, h2⟩ := kInt_ex h2
  cases ru
  obtain ⟨fs2, ef2, hl, h2⟩ := onI_ex h2
  obtain ⟨dx2, fvs2, hp2, rf2⟩ := own_ins s2.rs ef2
  have s3 := s2.rs.fput (f := f) (dx := dx2) (v := .int (op i j)) (d := .int (op i j)) ef2 rf2 (.int _)
  exact hrd _ _ _ _ ⟨dx2, fvs2, hp2, by rw [rf2.len]; exact hl, fin.nx _ _ h2 _ _ _ ((s1.trans s2).trans s3) (sr.mono (s1.sub.trans s2.sub))⟩
theorem liftMeth (h : liftE K (dMeth C m sp td t) σ H VQ) : tMeth C m (liftSp K sp) [] E0 (liftE K td) (liftA K t) σ H VQ := by
  obtain ⟨F, O, S, Q, rs, sr, h, fin⟩ := h
  refine ⟨F, O, S, _, rs, sr, h, fun dv O1 h1 v H1 F1 s1 rv => ?_⟩
  obtain ⟨a, rfl, h1⟩ := kRef_ex h1
  cases rv
  obtain ⟨fs, ef, hl, h1⟩ := onI_ex h1
  obtain ⟨dx, fvs, hp, rf⟩ := own_ins s1.rs ef
  refine ⟨a, dx, fvs, rfl, hp, rf.lookN hl, F1, O1, S, _, s1.rs, sr.mono s1.sub, h1, fun ds O2 h2 vs H2 F2 s2 r2 => ?_⟩
  exact ⟨F2, O2, _, Q, X0, s2.rs.z, .cons (.ref a) (by simpa using r2), h2, (fin.step (s1.trans s2)).z s2.rs, x0_fin⟩
theorem liftMethX (hw : ∀ C fs O, XW C fs O → K.ed C fs O) (h : liftE K (dMethX XW C m sp td t) σ H VQ) : tMeth C m (liftSp K sp) [] K.e (liftE K td) (liftA K t) σ H VQ := by
  obtain ⟨F, O, S, Q, rs, sr, h, fin⟩ := h
  refine ⟨F, O, S, _, rs, sr, h, fun dv O1 h1 v H1 F1 s1 rv => ?_⟩
  obtain ⟨a, rfl, h1⟩ := kRef_ex h1
  cases rv
  obtain ⟨fs, ef, hl, h1⟩ := onI_ex h1
  obtain ⟨dx, fvs, hp, rf⟩ := own_ins s1.rs ef
  refine ⟨a, dx, fvs, rfl, hp, rf.lookN hl, F1, O1, S, _, s1.rs, sr.mono s1.sub, h1, fun ds O2 h2 vs H2 F2 s2 r2 => ?_⟩
  exact ⟨F2, O2, _, Q, XW, s2.rs.z, .cons (.ref a) (by simpa using r2), h2, (fin.step (s1.trans s2)).z s2.rs, xw_fin s2.rs hw⟩
theorem RS.newIns (r : RS K F O H) {x dx : Addr} (h1 : H x = none) (h2 : H dx = none) (ne : dx ≠ x) : Stp K F O H F (oset O x (.ins C [])) (upd (upd H dx (.own x)) x (.ins C dx [])) := by
  obtain ⟨hf, ho⟩ := r.free h1
  obtain ⟨hf2, ho2⟩ := r.free h2
  have s : Stp K F O H F O (upd H dx (.own x)) := by
    refine Stp.mk' r (Sub.refl _) ⟨fun b u e => ?_, fun b c e => ?_⟩ (fun b u g1 g2 => ?_) (fun _ _ _ _ h => h)
    · have hb : b ≠ dx := fun z => by subst z; rw [hf2] at e; cases e
      rw [upd_ne hb]; exact r.fro b u e
    · have hb : b ≠ dx := fun z => by subst z; rw [ho2] at e; cases e
      obtain ⟨g1, g2⟩ := r.own b c e
      exact ⟨g1, g2.mono (Sub.refl _) (upd_ne hb)⟩
    · have hb : b ≠ dx := fun z => by subst z; rw [h2] at g1; cases g1
      exact ⟨by rw [upd_ne hb]; exact g1, g2⟩
  have h3 : upd H dx (.own x) x = none := by rw [upd_ne (Ne.symm ne)]; exact h1
  exact s.trans (s.rs.newO h3 (c := .ins C []) ⟨dx, [], upd_same, .nil⟩)
theorem liftMake (h : liftE K (dMake C sp t) σ H VQ) : tMake C (liftSp K sp) [] E0 (liftA K t) σ H VQ := by
  obtain ⟨F, O, S, Q, rs, sr, h, fin⟩ := h
  refine ⟨F, O, S, _, rs, sr, h, fun ds O1 h1 vs H1 F1 s1 r1 => fun x dx hx hdx ne => ?_⟩
  have s2 := s1.rs.newIns (C := C) hx hdx ne
  refine ⟨F1, _, _, _, X0, s2.rs.z, .cons (.ref x) (by simpa using r1), h1 x (s1.rs.free hx).2, ?_, x0_fin⟩
  refine FinE.z (K := K) ?_ s2.rs
  rintro d O' ⟨rfl, q⟩ v H' F' s3 rv
  cases rv
  exact ⟨rfl, fin _ _ q _ _ _ ((s1.trans s2).trans s3) (.ref x)⟩
theorem liftMakeX (hw : ∀ C fs O, XW C fs O → K.ed C fs O) (h : liftE K (dMakeX XW C sp t) σ H VQ) : tMake C (liftSp K sp) [] K.e (liftA K t) σ H VQ := by
  obtain ⟨F, O, S, Q, rs, sr, h, fin⟩ := h
  refine ⟨F, O, S, _, rs, sr, h, fun ds O1 h1 vs H1 F1 s1 r1 => fun x dx hx hdx ne => ?_⟩
  have s2 := s1.rs.newIns (C := C) hx hdx ne
  refine ⟨F1, _, _, _, XW, s2.rs.z, .cons (.ref x) (by simpa using r1), h1 x (s1.rs.free hx).2, ?_, xw_fin s2.rs hw⟩
  refine FinE.z (K := K) ?_ s2.rs
  rintro d O' ⟨rfl, q⟩ v H' F' s3 rv
  cases rv
  exact ⟨rfl, fin _ _ q _ _ _ ((s1.trans s2).trans s3) (.ref x)⟩
end
section
variable {X : Cx} {o e value : Expr} {f m x : Str} {pos pos' tpos apos p : Pos} {td tv : DTE} {t : DTA} {C g : Addr} {fd : FuncData} {ps : List Str} {sp : DSp} {k : Nat} {es : List Expr} {pl : Sem Bool}
theorem de_fld (hC : Cls X.K C) (hn : NoAttr X.K C f) (ho : DE XW X e td) (hb : attributeBase e f X.env (eval e X.env) = eval e X.env := by rfl) : DE XW X (.Attribute e f pos) (dFld C f td) :=
  ⟨fun g0 hg0 => PE_imp (pe_fld (ho.pe g0 hg0) hb) fun _ _ _ h => liftFld (K := kg X g0) hC hn h⟩
theorem ds_fld (hC : Cls X.K C) (hn : NoAttr X.K C f) (ho : DE XW X o td) (hv : DE XW X value tv) (hs : swapsWith value (some (.Attribute o f pos')) pos.line X.env = pure false := by rfl) : DS XW X (.Assign [.Attribute o f pos'] value pos) (dSFld C f td tv) :=
  ⟨fun g0 hg0 => PS_imp (ps_fld (ho.pe g0 hg0) (hv.pe g0 hg0) hs) fun _ _ _ h => liftSFld (K := kg X g0) hC hn h⟩
theorem ds_fldA (hC : Cls X.K C) (hn : NoAttr X.K C f) (ho : DE XW X o td) (hv : DE XW X value tv) : DS XW X (.AugAssign (.Attribute o f tpos) .Add value pos) (dSFldI C f (fun i j => i + j) td tv) :=
  ⟨fun g0 hg0 => PS_imp (ps_fldaug (ho.pe g0 hg0) (hv.pe g0 hg0) in_add) fun _ _ _ h => liftSFldI (K := kg X g0) (fun i j H Q q => ⟨i, j, rfl, rfl, q⟩) hC hn h⟩
theorem ds_fldS (hC : Cls X.K C) (hn : NoAttr X.K C f) (ho : DE XW X o td) (hv : DE XW X value tv) : DS XW X (.AugAssign (.Attribute o f tpos) .Sub value pos) (dSFldI C f (fun i j => i - j) td tv) :=
  ⟨fun g0 hg0 => PS_imp (ps_fldaug (ho.pe g0 hg0) (hv.pe g0 hg0) in_sub) fun _ _ _ h => liftSFldI (K := kg X g0) (fun i j H Q q => ⟨i, j, rfl, rfl, q⟩) hC hn h⟩
theorem de_meth (c : Cls X.K C) (hm : Meth X.K C m g) (G : FnOk X.prog X.w X.K X.mg X.base CX0 k g fd ps (liftSp X.K sp)) (hr : Room k X.A) (hb : Binds X.K fd ps []) (he : DE XW X o td) (ha : DA XW X (e :: es) t)
    (hst : starEach (e :: es) X.env = (false, eval e X.env) :: starEach es X.env := by rfl) (hpl : (backTo pos (starEach es X.env)).any (·.1) = false := by rfl)
    (ht : eval (.Call (.Attribute o m apos) (e :: es) [] pos) X.env = (do
      let ov ← eval o X.env
      standAt apos.atName
      let (f, first) ← holding [ov] (getMethod ov m pl)
      callWith pos f first (backTo pos (starEach (e :: es) X.env)) (backToKw pos (keywordEach [] X.env))) := by rfl) : DE XW X (.Call (.Attribute o m apos) (e :: es) [] pos) (dMeth C m sp td t) :=
  ⟨fun g0 hg0 => PE_imp (pe_meth (he.pe g0 hg0) c hm G hr hb .nil pass0 (ha.pa g0 hg0) hst hpl ht) fun _ _ _ h => liftMeth (K := kg X g0) h⟩
theorem de_methX (c : Cls X.K C) (hm : Meth X.K C m g) (G : FnOk X.prog X.w X.K X.mg X.base (L2.CX X.prog X.w) k g fd ps (liftSp X.K sp)) (hr : Room k X.A) (hb : Binds X.K fd ps []) (he : DE XW X o td) (ha : DA XW X (e :: es) t)
    (hst : starEach (e :: es) X.env = (false, eval e X.env) :: starEach es X.env := by rfl) (hpl : (backTo pos (starEach es X.env)).any (·.1) = false := by rfl)
    (ht : eval (.Call (.Attribute o m apos) (e :: es) [] pos) X.env = (do
      let ov ← eval o X.env
      standAt apos.atName
      let (f, first) ← holding [ov] (getMethod ov m pl)
      callWith pos f first (backTo pos (starEach (e :: es) X.env)) (backToKw pos (keywordEach [] X.env))) := by rfl) : DE XW X (.Call (.Attribute o m apos) (e :: es) [] pos) (dMethX XW C m sp td t) :=
  ⟨fun g0 hg0 => PE_imp (pe_meth (he.pe g0 hg0) c hm G hr hb .nil hg0.pass (ha.pa g0 hg0) hst hpl ht) fun _ _ _ h => liftMethX (K := kg X g0) hg0.2 h⟩
theorem liftA_nil {K : KG} {σ : L2.St} {H : Hp} {VQ : List V → Hp → Prop} (h : liftA K dANil σ H VQ) : tNil σ H VQ := by
  obtain ⟨F, O, S, Q, rs, sr, h, fin⟩ := h
  exact fin _ _ h _ _ _ (.refl rs) .nil
theorem de_meth0 (c : Cls X.K C) (hm : Meth X.K C m g) (G : FnOk X.prog X.w X.K X.mg X.base CX0 k g fd ps (liftSp X.K sp)) (hr : Room k X.A) (hb : Binds X.K fd ps []) (he : DE XW X o td)
    (ht : eval (.Call (.Attribute o m apos) [] [] pos) X.env = (do
      let ov ← eval o X.env
      standAt apos.atName
      let (f, first) ← holding [ov] (getMethod ov m pl)
      callWith pos f first (backTo pos (starEach [] X.env)) (backToKw pos (keywordEach [] X.env))) := by rfl) : DE XW X (.Call (.Attribute o m apos) [] [] pos) (dMeth C m sp td dANil) := by
  refine ⟨fun g0 hg0 => PE_imp (pe_meth0 (he.pe g0 hg0) c hm G hr hb .nil pass0 ht) ?_⟩
  rintro σ H VQ ⟨F, O, S, Q, rs, sr, h, fin⟩
  refine ⟨F, O, S, _, rs, sr, h, fun dv O1 h1 v H1 F1 s1 rv => ?_⟩
  obtain ⟨a, rfl, h1⟩ := kRef_ex h1
  cases rv
  obtain ⟨fs, ef, hl, h1⟩ := onI_ex h1
  obtain ⟨dx, fvs, hp, rf⟩ := own_ins s1.rs ef
  exact ⟨a, dx, fvs, rfl, hp, rf.lookN hl, F1, O1, _, Q, X0, s1.rs.z, .cons (.ref a) .nil, h1, (fin.step s1).z s1.rs, x0_fin⟩
theorem de_methX0 (c : Cls X.K C) (hm : Meth X.K C m g) (G : FnOk X.prog X.w X.K X.mg X.base (L2.CX X.prog X.w) k g fd ps (liftSp X.K sp)) (hr : Room k X.A) (hb : Binds X.K fd ps []) (he : DE XW X o td)
    (ht : eval (.Call (.Attribute o m apos) [] [] pos) X.env = (do
      let ov ← eval o X.env
      standAt apos.atName
      let (f, first) ← holding [ov] (getMethod ov m pl)
      callWith pos f first (backTo pos (starEach [] X.env)) (backToKw pos (keywordEach [] X.env))) := by rfl) : DE XW X (.Call (.Attribute o m apos) [] [] pos) (dMethX XW C m sp td dANil) := by
  refine ⟨fun g0 hg0 => PE_imp (pe_meth0 (he.pe g0 hg0) c hm G hr hb .nil hg0.pass ht) ?_⟩
  rintro σ H VQ ⟨F, O, S, Q, rs, sr, h, fin⟩
  refine ⟨F, O, S, _, rs, sr, h, fun dv O1 h1 v H1 F1 s1 rv => ?_⟩
  obtain ⟨a, rfl, h1⟩ := kRef_ex h1
  cases rv
  obtain ⟨fs, ef, hl, h1⟩ := onI_ex h1
  obtain ⟨dx, fvs, hp, rf⟩ := own_ins s1.rs ef
  exact ⟨a, dx, fvs, rfl, hp, rf.lookN hl, F1, O1, _, Q, XW, s1.rs.z, .cons (.ref a) .nil, h1, (fin.step s1).z s1.rs, xw_fin s1.rs hg0.2⟩
theorem de_make (M : Mk X.K C g) (G : FnOk X.prog X.w X.K X.mg X.base CX0 k g fd ps (liftSp X.K sp)) (hr : Room (k + 1) X.A) (hm : X.mg x = some (.ref C)) (hb : Binds X.K fd ps []) (ha : DA XW X (e :: es) t)
    (hg : Gl X x := by rfl) (hdb : (x == ("__debug__" : Str)) = false := by decide) (he : starEach (e :: es) X.env = (false, eval e X.env) :: starEach es X.env := by rfl) (hpl : (backTo pos (starEach es X.env)).any (·.1) = false := by rfl) :
    DE XW X (.Call (.Name x p) (e :: es) [] pos) (dMake C sp t) :=
  ⟨fun g0 hg0 => PE_imp (pe_make M G hr hg hm hb .nil pass0 (ha.pa g0 hg0) hdb he hpl) fun _ _ _ h => liftMake (K := kg X g0) h⟩
theorem de_makeX (M : Mk X.K C g) (G : FnOk X.prog X.w X.K X.mg X.base (L2.CX X.prog X.w) k g fd ps (liftSp X.K sp)) (hr : Room (k + 1) X.A) (hm : X.mg x = some (.ref C)) (hb : Binds X.K fd ps []) (ha : DA XW X (e :: es) t)
    (hg : Gl X x := by rfl) (hdb : (x == ("__debug__" : Str)) = false := by decide) (he : starEach (e :: es) X.env = (false, eval e X.env) :: starEach es X.env := by rfl) (hpl : (backTo pos (starEach es X.env)).any (·.1) = false := by rfl) :
    DE XW X (.Call (.Name x p) (e :: es) [] pos) (dMakeX XW C sp t) :=
  ⟨fun g0 hg0 => PE_imp (pe_make M G hr hg hm hb .nil hg0.pass (ha.pa g0 hg0) hdb he hpl) fun _ _ _ h => liftMakeX (K := kg X g0) hg0.2 h⟩
end
end DL

set_option Elab.async false
set_option linter.all false
set_option maxRecDepth 100000
/-! DView: walks over dicts that are owned, max. -/
namespace DL
open PySem PySem.Spec PyProof.Rows L2 TL
variable {XW : DXK}
def keyV : Key → DV
  | .inl i => .int i
  | .inr s => .str s
theorem keyV_str {s : Str} : keyV (Sum.inr s) = .str s := rfl
theorem rep_key {K : PySem.W.Frag} {F : Hp} : ∀ k : Key, Rep K F (kV k) (keyV k)
  | .inl i => .int i
  | .inr s => .str s
theorem RepK.nth {K : PySem.W.Frag} {F : Hp} : ∀ {kvs : List (Key × V)} {es : List (Key × DV)} {i : Nat} {k : Key} {v : V}, RepK K F kvs es → kvs[i]? = some (k, v) → ∃ d, es[i]? = some (k, d) ∧ Rep K F v d
  | _, _, _, _, _, .nil, e => by simp at e
  | _, _, 0, _, _, .cons h _, e => by
    simp only [List.getElem?_cons_zero, Option.some.injEq, Prod.mk.injEq] at e
    obtain ⟨rfl, rfl⟩ := e
    exact ⟨_, rfl, h⟩
  | _, _, i + 1, _, _, .cons _ r, e => by
    obtain ⟨d, h1, h2⟩ := RepK.nth (i := i) r (by simpa using e)
    exact ⟨d, by simpa using h1, h2⟩
section
variable {K : KG} {F H F' H' : Hp} {O O' : Own} {a : Addr} {kvs : List (Key × V)} {es : List (Key × DV)} {od : Obj}
/-- an owned dict is locked, and frozen -/
theorem RS.lockF (rs : RS K F O H) (hO : O a = some (.dK es)) : Stp K F O H (upd F a (.dK kvs)) (odel O a) (upd H a (.frz od (.dK kvs))) := by
  obtain ⟨hf, _⟩ := rs.own a _ hO
  refine Stp.mk' rs (Sub.upd hf) ⟨fun b u e => ?_, fun b c e => ?_⟩ (fun b u h1 h2 => ?_) (fun b u h1 h2 h3 => ?_)
  · by_cases hb : b = a
    · subst hb; rw [upd_same] at e; cases e; exact .inr ⟨trivial, od, upd_same⟩
    · rw [upd_ne hb] at e ⊢; exact rs.fro b u e
  · have hb : b ≠ a := fun z => by subst z; rw [odel_same] at e; cases e
    rw [odel_ne hb] at e
    obtain ⟨g1, g2⟩ := rs.own b c e
    exact ⟨by rw [upd_ne hb]; exact g1, g2.mono (Sub.upd hf) (upd_ne hb)⟩
  · have hb : b ≠ a := fun z => by subst z; rw [hO] at h2; cases h2
    exact ⟨by rw [upd_ne hb]; exact h1, by rw [odel_ne hb]; exact h2⟩
  · have hb : b ≠ a := fun z => by subst z; rw [hO] at h2; cases h2
    rw [upd_ne hb]; exact h3
theorem RS.unlockF (rs : RS K F O H) (hO : O a = some (.dK es)) (s : Stp K (upd F a (.dK kvs)) (odel O a) (upd H a (.frz od (.dK kvs))) F' O' H') : Stp K F O H F' O' (upd H' a (.dK kvs)) := by
  obtain ⟨hf, _⟩ := rs.own a _ hO
  have hfa : F' a = some (.dK kvs) := s.sub _ _ upd_same
  refine Stp.mk' rs ((Sub.upd hf).trans s.sub) ⟨fun b u e => ?_, fun b c e => ?_⟩ (fun b u h1 h2 => ?_) (fun b u h1 h2 h3 => ?_)
  · by_cases hb : b = a
    · subst hb; rw [hfa] at e; cases e; exact .inl upd_same
    · rw [upd_ne hb]; exact s.rs.fro b u e
  · obtain ⟨g1, g2⟩ := s.rs.own b c e
    have hb : b ≠ a := fun z => by subst z; rw [hfa] at g1; cases g1
    exact ⟨g1, g2.mono (Sub.refl _) (upd_ne hb)⟩
  · have hb : b ≠ a := fun z => by subst z; rw [hO] at h2; cases h2
    rw [upd_ne hb]
    exact s.keep b u (by rw [upd_ne hb]; exact h1) (by rw [odel_ne hb]; exact h2)
  · have hb : b ≠ a := fun z => by subst z; rw [hO] at h2; cases h2
    exact s.nof b u (by rw [upd_ne hb]; exact h1) (by rw [odel_ne hb]; exact h2) (by rw [upd_ne hb]; exact h3)
/-- an owned dict is locked, and put aside -/
theorem RS.lockN (rs : RS K F O H) (hO : O a = some (.dK es)) : Stp K F O H F (odel O a) (upd H a (.frz od (.dK kvs))) := by
  obtain ⟨hf, _⟩ := rs.own a _ hO
  refine Stp.mk' rs (Sub.refl _) ⟨fun b u e => ?_, fun b c e => ?_⟩ (fun b u h1 h2 => ?_) (fun b u h1 h2 h3 => h3)
  · have hb : b ≠ a := fun z => by subst z; rw [hf] at e; cases e
    rw [upd_ne hb]; exact rs.fro b u e
  · have hb : b ≠ a := fun z => by subst z; rw [odel_same] at e; cases e
    rw [odel_ne hb] at e
    obtain ⟨g1, g2⟩ := rs.own b c e
    exact ⟨g1, g2.mono (Sub.refl _) (upd_ne hb)⟩
  · have hb : b ≠ a := fun z => by subst z; rw [hO] at h2; cases h2
    exact ⟨by rw [upd_ne hb]; exact h1, by rw [odel_ne hb]; exact h2⟩
theorem RS.unlockN (rs : RS K F O H) (hO : O a = some (.dK es)) (rk : RepK K F kvs es) (s : Stp K F (odel O a) (upd H a (.frz od (.dK kvs))) F' O' H') : Stp K F O H F' (oset O' a (.dK es)) (upd H' a (.dK kvs)) := by
  obtain ⟨hf, _⟩ := rs.own a _ hO
  have hfa : F' a = none := s.nof a _ upd_same odel_same hf
  refine Stp.mk' rs s.sub ⟨fun b u e => ?_, fun b c e => ?_⟩ (fun b u h1 h2 => ?_) (fun b u h1 h2 h3 => ?_)
  · have hb : b ≠ a := fun z => by subst z; rw [hfa] at e; cases e
    rw [upd_ne hb]; exact s.rs.fro b u e
  · by_cases hb : b = a
    · subst hb; rw [oset_same] at e; cases e
      exact ⟨hfa, kvs, upd_same, rk.mono s.sub⟩
    · rw [oset_ne hb] at e
      obtain ⟨g1, g2⟩ := s.rs.own b c e
      exact ⟨g1, g2.mono (Sub.refl _) (upd_ne hb)⟩
  · have hb : b ≠ a := fun z => by subst z; rw [hO] at h2; cases h2
    rw [upd_ne hb, oset_ne hb]
    exact s.keep b u (by rw [upd_ne hb]; exact h1) (by rw [odel_ne hb]; exact h2)
  · have hb : b ≠ a := fun z => by subst z; rw [hO] at h2; cases h2
    exact s.nof b u (by rw [upd_ne hb]; exact h1) (by rw [odel_ne hb]; exact h2) h3
end
/-- for g in d, d an owned dict in the i-th slot: it is frozen -/
def dForK (i : Nat) (g : DTG) (tb : DTS) (D : DEnds) (S : DSt) (O : Own) : Prop := onSome (slot S i) fun x => kRef (fun a O1 => onK (O1 a) fun es => forW g tb D (es.map fun kv : Key × DV => keyV kv.1) (S.set i (some (.dK es))) (odel O1 a)) x O
theorem ds_forK (i : Nat) {X : Cx} {tg iter : Expr} {body : List Stmt} {g : DTG} {tb : DTS} {pos : Pos} (hp : PassesOwn (model X.prog X.w) X.A X.env X.xe) (hc : X.calm = true) (hi : DE XW X iter (dVar i)) (hg : DG XW X tg g) (hb : DSs XW X body tb)
    (hs : ∀ x, foldedSetIterable iter X.env x = pure x := by intro _; rfl) : DS XW X (.For tg iter body [] pos) (dForK i g tb) := by
  refine ⟨fun g0 hg0 => PS_imp (ps_lock (ps_for hp hc (pi_keys (hi.pe g0 hg0)) (hg.pg g0 hg0) (hb.ps g0 hg0) hs)) ?_⟩
  rintro VD σ H ⟨F, O, S, D, rs, sr, h, fin⟩
  obtain ⟨x, e, h⟩ := onSome_ex h
  obtain ⟨a, rfl, h⟩ := kRef_ex h
  obtain ⟨es, hO, h⟩ := onK_ex h
  obtain ⟨v, hv, r1⟩ := sr.2 i _ (slot_get e)
  cases r1
  obtain ⟨hf, kvs, hH, rk⟩ := rs.own a _ hO
  refine ⟨a, .dK kvs, hH, trivial, fun od => ?_⟩
  have st0 := rs.lockF (kvs := kvs) (od := od) hO
  refine ⟨_, _, S, fun d O' => d = .ref a ∧ O' = odel O a, st0.rs, sr.mono st0.sub, onSome_of e ⟨rfl, rfl⟩, ?_⟩
  rintro d O1 ⟨rfl, rfl⟩ v H1 F1 s1 rv
  cases rv
  have hA : H1 a = some (.frz od (.dK kvs)) := (s1.keep a _ upd_same odel_same).1
  refine ⟨a, od, rfl, .inl ⟨kvs, hA, ?_⟩⟩
  have rk1 : Rep (kg X g0) F1 (.ref a) (.dK es) := .dK (s1.sub _ _ upd_same) (rk.mono ((Sub.upd hf).trans s1.sub))
  have sr1 := SR.put ((sr.mono st0.sub).mono s1.sub) i hv rk1
  have keyat : ∀ j, j < es.length → ∃ k v, kvs[j]? = some (k, v) ∧ (es.map fun kv : Key × DV => keyV kv.1)[j]? = some (keyV k) := fun j hj => by
    have hj2 : j < kvs.length := by rw [rk.len]; exact hj
    refine ⟨kvs[j].1, kvs[j].2, List.getElem?_eq_getElem hj2, ?_⟩
    obtain ⟨d, e1, _⟩ := RepK.nth (i := j) rk (k := kvs[j].1) (v := kvs[j].2) (List.getElem?_eq_getElem hj2)
    rw [List.getElem?_map, e1]; rfl
  refine ⟨fun j m σ' H' => m = es.length - j ∧ ∃ F' O' S', Stp (kg X g0) F1 (odel O a) H1 F' O' H' ∧ SR X.K F' σ' S' ∧ forW g tb D ((es.map fun kv : Key × DV => keyV kv.1).drop j) S' O', ⟨_, rfl, F1, _, _, .refl s1.rs, sr1, h⟩, ?_⟩
  rintro j m σ' H' ⟨em, F', O', S', s', sr', h'⟩
  have hA' : H' a = some (.frz od (.dK kvs)) := (s'.keep a _ hA odel_same).1
  have unl : ∀ {F2 : Hp} {O2 : Own} {H2 : Hp}, Stp (kg X g0) F' O' H' F2 O2 H2 → H2 a = some (.frz od (.dK kvs)) ∧ Stp (kg X g0) F O H F2 O2 (upd H2 a (.dK kvs)) := fun s2 => by
    have st := (s1.trans s').trans s2
    exact ⟨(st.keep a _ upd_same odel_same).1, rs.unlockF hO st⟩
  by_cases hi : j < es.length
  · obtain ⟨k, v, e1, e2⟩ := keyat j hi
    have hl : j < (es.map fun kv : Key × DV => keyV kv.1).length := by rw [List.length_map]; exact hi
    have e3 : (es.map fun kv : Key × DV => keyV kv.1)[j] = keyV k := by
      have := List.getElem?_eq_getElem hl
      rw [this] at e2; exact Option.some.inj e2
    rw [List.drop_eq_getElem_cons hl, e3] at h'
    refine .inr ⟨⟨hA', by rw [rk.len]; exact hi⟩, fun σ2 H2 => ∃ F2 O2 S2, Stp (kg X g0) F1 (odel O a) H1 F2 O2 H2 ∧ SR X.K F2 σ2 S2 ∧ forW g tb D ((es.map fun kv : Key × DV => keyV kv.1).drop (j + 1)) S2 O2, fun σ2 H2 q => ⟨_, ?_, rfl, q⟩, fun x H2 q => ?_⟩
    · omega
    · obtain ⟨rfl, k', v', e4, rfl⟩ := q
      rw [e1] at e4; cases e4
      refine ⟨F', O', S', _, _, s'.rs, sr', rep_key k, h', fun S4 O4 h4 σ4 H4 F4 s4 sr4 => ⟨F4, O4, S4, _, s4.rs, sr4, h4, ?_⟩⟩
      refine ⟨fun S2 O2 h2 σ2 H2 F2 s2 sr2 => ⟨F2, O2, S2, (s'.trans s4).trans s2, sr2, h2⟩, fun d2 O2 h2 v2 H2 F2 s2 rv2 => ?_, fun S2 O2 h2 σ2 H2 F2 s2 sr2 => ?_, fun S2 O2 h2 σ2 H2 F2 s2 sr2 => ⟨F2, O2, S2, (s'.trans s4).trans s2, sr2, h2⟩⟩
      · obtain ⟨u1, u2⟩ := unl (s4.trans s2)
        exact ⟨u1, fin.rt _ _ h2 _ _ _ u2 rv2⟩
      · obtain ⟨u1, u2⟩ := unl (s4.trans s2)
        exact ⟨u1, fin.nx _ _ h2 _ _ _ u2 sr2⟩
  · rw [List.drop_eq_nil_of_le (by rw [List.length_map]; omega)] at h'
    obtain ⟨u1, u2⟩ := unl (.refl s'.rs)
    exact .inl ⟨⟨hA', by rw [rk.len]; omega⟩, u1, fin.nx _ _ h' _ _ _ u2 sr'⟩
/-- [.. for x in d.values()], d an owned dict in the i-th slot -/
def dLcV (ow : Bool) (i : Nat) (b : DV → DSt → Option DSt) (tt : DTT) (te : DTE) (vs : List Nat) (S : DSt) (O : Own) (Q : DVK) : Prop := onSome (slot S i) fun x => kRef (fun a O1 => onK (O1 a) fun es => lcW ow b tt te (dwipe S vs) (fun d O2 => Q d (oset O2 a (.dK es))) (es.map fun kv : Key × DV => kv.2) [] (odel O1 a)) x O
theorem de_lcV (ow : Bool) (i : Nat) {X : Cx} {elt tg iter : Expr} {ifs : List Expr} {scope : Scope} {own : List (Str × Nat)} {pos apos cpos : Pos} {g : TG} {b : DV → DSt → Option DSt} {tt : DTT} {te : DTE} (hc : X.calm = true) (hN : X.N.Nodup) (hi : DE XW X iter (dVar i)) (ok : BlkOk X.N X.env.scope scope own) (hT : TgtOk X.K g b (own.map (·.2)))
    (hg : ∀ (s : Shared) (H : Hp) (C : Addr) (cl : List (Str × Addr)) (fp : List Addr), PG (X.blk s H scope (compEnvC scope cl C X.env) fp) tg g) (ht : ∀ (s : Shared) (H : Hp) (C : Addr) (cl : List (Str × Addr)) (fp : List Addr), DTs X0 (X.blk s H scope (compEnvC scope cl C X.env) fp) ifs tt)
    (he : ∀ (s : Shared) (H : Hp) (C : Addr) (cl : List (Str × Addr)) (fp : List Addr), DE X0 (X.blk s H scope (compEnvC scope cl C X.env) fp) elt te) (hbase : attributeBase iter "values" X.env (eval iter X.env) = eval iter X.env := by rfl) (hline : (apos.endLine == cpos.line) = true := by rfl) (hs : ∀ x, foldedSetIterable (.Call (.Attribute iter "values" apos) [] [] cpos) X.env x = pure x := by intro _; rfl) :
    DE XW X (.ListComp elt [⟨tg, .Call (.Attribute iter "values" apos) [] [] cpos, ifs, 0⟩] scope pos) (dLcV ow i b tt te (own.map (·.2))) := by
  refine ⟨fun g0 hg0 => PE_imp (pe_lock (pe_lc (te := liftE ⟨X.K, X0, L2.E0⟩ te) (tt := liftT ⟨X.K, X0, L2.E0⟩ tt) hc hN (pi_values (hi.pe g0 hg0) hbase hline) ok hg (fun s H C cl fp => (ht s H C cl fp).pts (X0, L2.E0) (good_of (takesL) fun _ _ _ h => h)) (fun s H C cl fp => (he s H C cl fp).pe (X0, L2.E0) (good_of (takesL) fun _ _ _ h => h)) hs)) ?_⟩
  rintro σ H VQ ⟨F, O, S, Q, rs, sr, h, fin⟩
  obtain ⟨x, e, h⟩ := onSome_ex h
  obtain ⟨a, rfl, h⟩ := kRef_ex h
  obtain ⟨es, hO, h⟩ := onK_ex h
  obtain ⟨hf, kvs, hH, rk⟩ := rs.own a _ hO
  refine ⟨a, .dK kvs, hH, trivial, fun od => ?_⟩
  have st0 := rs.lockN (kvs := kvs) (od := od) hO
  refine ⟨_, _, S, fun d O' => d = .ref a ∧ O' = odel O a, st0.rs, sr.mono st0.sub, onSome_of e ⟨rfl, rfl⟩, ?_⟩
  rintro d O1 ⟨rfl, rfl⟩ v H1 F1 s1 rv
  cases rv
  have hA : H1 a = some (.frz od (.dK kvs)) := (s1.keep a _ upd_same odel_same).1
  refine ⟨a, od, kvs, rfl, hA, fun D hD => ?_⟩
  have rk1 := rk.mono s1.sub
  obtain ⟨hf1, ho1⟩ := s1.rs.free hD
  refine ⟨fun i m H' => m = es.length - i ∧ ∃ F' O' acc vacc, Stp (kg X g0) F1 (odel O a) H1 F' O' H' ∧ H' D = some (.lst vacc) ∧ F' D = none ∧ O' D = none ∧ Reps X.K F' vacc acc ∧ lcW ow b tt te (dwipe S (own.map (·.2))) (fun d O2 => Q d (oset O2 a (.dK es))) ((es.map fun kv : Key × DV => kv.2).drop i) acc O',
    ⟨_, rfl, F1, _, [], [], (Stp.refl s1.rs).side s1.rs hD hf1 ho1 _, upd_same, hf1, ho1, .nil, h⟩, ?_⟩
  rintro i m H' ⟨em, F', O', acc, vacc, s', hd', hf', ho', ra, h'⟩
  have hA' : H' a = some (.frz od (.dK kvs)) := (s'.keep a _ hA odel_same).1
  by_cases hi : i < es.length
  · have hi2 : i < kvs.length := by rw [rk.len]; exact hi
    have e1 : kvs[i]? = some (kvs[i].1, kvs[i].2) := List.getElem?_eq_getElem hi2
    obtain ⟨dv, e2, rv⟩ := RepK.nth rk1 e1
    have hl : i < (es.map fun kv : Key × DV => kv.2).length := by rw [List.length_map]; exact hi
    have e3 : (es.map fun kv : Key × DV => kv.2)[i] = dv := by
      have := List.getElem?_eq_getElem hl
      rw [List.getElem?_map, e2] at this; exact (Option.some.inj this).symm
    rw [List.drop_eq_getElem_cons hl, e3] at h'
    refine .inr ⟨⟨hA', hi2⟩, fun H2 => ∃ F' O' acc vacc, Stp (kg X g0) F1 (odel O a) H1 F' O' H2 ∧ H2 D = some (.lst vacc) ∧ F' D = none ∧ O' D = none ∧ Reps X.K F' vacc acc ∧ lcW ow b tt te (dwipe S (own.map (·.2))) (fun d O2 => Q d (oset O2 a (.dK es))) ((es.map fun kv : Key × DV => kv.2).drop (i + 1)) acc O', fun H2 q => ⟨_, ?_, rfl, q⟩, fun x H2 q => ?_⟩
    · omega
    · obtain ⟨rfl, k', e4⟩ := q
      rw [e1] at e4
      cases e4
      unfold lcW at h'
      obtain ⟨S2, e2, h'⟩ := onSome_ex h'
      refine hT.ok s'.rs.z (rv.mono s'.sub) ((((sr.mono st0.sub).mono s1.sub).mono s'.sub) |>.wipe _) e2 fun σ2 sr2 ew => ⟨ew.trans (wipe_wipe fun _ h => h), F', O', S2, _, s'.rs.drop, sr2, h', fun c O4 h4 H4 F4 s4' => ?_⟩
      have s4 := s4'.up s'.rs
      have st4 := s4
      dsimp only at h4 ⊢
      split
      · rename_i e; rw [if_pos e] at h4
        refine ⟨F4, O4, S2, _, s4.rs.drop, sr2.mono s4.sub, h4, fun d O5 h5 v H5 F5 s5' r5 => ?_⟩
        have s5 := s5'.up s4.rs
        have st5 := st4.trans s5
        obtain ⟨k1, k2⟩ := st5.keep D _ hd' ho'
        have k3 := st5.nof D _ hd' ho' hf'
        exact ⟨vacc, k1, by rw [ra.len]; exact lc_line h5.1, F5, O5, _, _, (s'.trans st5).side s1.rs hD k3 k2 _, upd_same, k3, k2, (ra.mono st5.sub).append (.cons r5 .nil), h5.2⟩
      · rename_i e; rw [if_neg e] at h4
        obtain ⟨k1, k2⟩ := st4.keep D _ hd' ho'
        have k3 := st4.nof D _ hd' ho' hf'
        exact ⟨F4, O4, acc, vacc, s'.trans st4, k1, k3, k2, ra.mono st4.sub, h4⟩
  · rw [List.drop_eq_nil_of_le (by rw [List.length_map]; omega)] at h'
    refine .inl ⟨⟨hA', by rw [rk.len]; omega⟩, ?_⟩
    refine endLc_ok (K := kg X g0) (VQ := fun v H2 => H2 a = some (.frz od (.dK kvs)) ∧ VQ v (upd H2 a (.dK kvs))) s1.rs s' hD hd' hf' ho' ra h' ?_
    intro d O2 q v H2 F2 s2 rv2
    have st := s1.trans s2
    exact ⟨(st.keep a _ upd_same odel_same).1, fin _ _ q _ _ _ (rs.unlockN hO rk st) rv2⟩
/-- max(i, j) -/
def dMax2 : List DV → Own → DVK → Prop
  | [.int i, .int j], O, Q => Q (.int (if j > i then j else i)) O
  | _, _, _ => False
theorem cd_max2 {X : Cx} (hc : X.calm = true) : CallD X (.builtin "max") dMax2 := by
  refine ⟨fun g0 => CallR_imp (call_max2 hc) ?_⟩
  rintro vs H VQ ⟨F, O, ds, Q, rs, rr, h, fin⟩
  unfold dMax2 at h
  split at h
  · obtain ⟨v, w, rfl, r, r2⟩ := rr.two
    cases r; cases r2
    exact ⟨_, _, rfl, fin _ _ h _ _ F (.refl rs) (.int _)⟩
  · exact h.elim
theorem dMax2_e1 {i j : Int} {O : Own} {Q : DVK} : dMax2 [.int i, .int j] O Q = Q (.int (if j > i then j else i)) O := rfl
/-- max(xs) of whole numbers -/
def dMaxL : List DV → Own → DVK → Prop
  | [d], O, Q => lstQ O d fun xs => ∃ ns : List Int, xs = ns.map DV.int ∧ 0 < ns.length ∧ ∀ m, m ∈ ns → (∀ y ∈ ns, y ≤ m) → Q (.int m) O
  | _, _, _ => False
theorem cd_maxL {X : Cx} (hc : X.calm = true) : CallD X (.builtin "max") dMaxL := by
  refine ⟨fun g0 => CallR_imp (cr_max hc) ?_⟩
  rintro vs H VQ ⟨F, O, ds, Q, rs, rr, h, fin⟩
  unfold dMaxL at h
  split at h
  · obtain ⟨v, rfl, r⟩ := rr.one
    obtain ⟨xs, e, ns, rfl, hp, h⟩ := lstQ_ex h
    obtain ⟨a, vs, rfl, h1, r1⟩ := lstOf_at rs r e
    have hv := Reps.ints r1
    subst hv
    exact ⟨a, ns, rfl, SqL.of h1, hp, fun m hm hle => fin _ _ (h m hm hle) _ _ F (.refl rs) (.int _)⟩
  · exact h.elim
theorem dMaxL_e1 {d : DV} {O : Own} {Q : DVK} : dMaxL [d] O Q = lstQ O d fun xs => ∃ ns : List Int, xs = ns.map DV.int ∧ 0 < ns.length ∧ ∀ m, m ∈ ns → (∀ y ∈ ns, y ≤ m) → Q (.int m) O := rfl
end DL

set_option Elab.async false
set_option linter.all false
set_option maxRecDepth 100000
set_option maxHeartbeats 2000000
/-! DLam: a lambda handed to a def that tries it; the lambda's code object goes into its maker's table. -/
namespace DL
open PySem PySem.Spec PyProof.Rows L2 TL
/-- the heap behind the making of a lambda: as it was, its code object c' found; or c' is new and in the table -/
inductive Made (q : Str) (P : Addr) (H : Hp) (c' : Addr) : Hp → Prop
  | old : H c' = some (LamX.CodeO c' q) → Made q P H c' H
  | new {ps ps' : Array Value} : H c' = none → H P = some (.tbl ps) → TriplesOk ps'.toList → (∀ pos cv, codeAmong pos ps'.toList = some cv → codeAmong pos ps.toList = some cv ∨ cv = .ref c') → Made q P H c' (upd (upd H P (.tbl ps')) c' (LamX.CodeO c' q))
def TabF (F H : Hp) (P : Addr) (q : Str) : Prop := ∃ ps : Array Value, H P = some (.tbl ps) ∧ TriplesOk ps.toList ∧ ∀ (pos : Pos) (cv : Value), codeAmong pos ps.toList = some cv → ∃ c, cv = .ref c ∧ F c = some (LamX.CodeO c q)
section
variable {X : Cx} {pins : List (Addr × Obj)} {σ : L2.St} {H : Hp} {s : Shared}
theorem lam_made {q : Str} {c P : Addr} {params : Arguments} {body : Expr} {scope : Scope} {pos : Pos} {E Q : Value → Shared → Prop} (I : L2.Inv X pins σ H s) (TB : LamX.TabB X.base X.mg c P) (hcode : X.env.code = .ref c) (hq : X.env.qual ++ "<lambda>" = q)
    (hT : TabF H H P q) (hdef : defaultsOf params X.env = ([], [])) (hfree : ∀ y ∈ scope.names, y.2 = .free → ∃ c, X.env.cells.lookup y.1 = some c)
    (h : ∀ (f c' : Addr) (pm ctv : Value) (H1 : Hp) (s' : Shared), L2.Inv X pins σ H1 s' → Made q P H c' H1 →
      s'.heap.get? f = some (PySem.W.kla_obj "<lambda>" q params body scope (cloFrom X.env.cells scope.names []) pm c' ctv) → H1 f = none → f ∉ frs X.stack → H1 c' = some (LamX.CodeO c' q) → Q (.ref f) s') :
    wpAny (model X.prog X.w) X.A (eval (.Lambda params body scope pos) X.env) Q E s := by
  obtain ⟨ps, hP, ht, ha⟩ := hT
  subst hq
  refine PySem.W.kla_eval hdef ?_
  have bP := TB.bm.keeps I.bk
  have hP' := I.hok P _ hP
  have far : ∀ f, s.heap.objs.size ≤ f → f ∉ frs X.stack := fun f hf z => by
    rcases List.mem_cons.mp (I.stkSub _ z) with e | e
    · have h1 := I.lt
      rw [← e] at h1
      exact absurd h1 (Nat.not_lt.mpr hf)
    · exact I.nofs hf e
  cases hc : codeAmong pos ps.toList with
  | some cv =>
    obtain ⟨c', rfl, hco⟩ := ha pos cv hc
    exact PySem.W.kla_makeFunctionHit (closure_ok hfree) I.ok.glob (I.mod.glob.keeps I.bk) hcode (TB.code.keeps I.bk) hP' ht hc bP fun ctv h' tk hx hsz =>
      h h'.objs.size c' _ ctv H _ (I.kept fun b o e => Heap.get?_push_of_some _ (hx b o e)) (.old hco) (Heap.get?_push_size _ rfl) (I.hok.fresh hsz) (far _ hsz) hco
  | none =>
    refine PySem.W.kla_makeFunction (closure_ok hfree) I.ok.glob (I.mod.glob.keeps I.bk) hcode (TB.code.keeps I.bk) hP' ht hc TB.gP bP fun c' ctv h' tk hx hge hlt hrec htb => ?_
    obtain ⟨c2, oc, vs, t, e2, hoc, hd, hv⟩ := hrec
    cases e2
    have hsz := Nat.le_trans hge (Nat.le_of_lt hlt)
    have nC := I.hok.fresh hge
    have eL : (ps ++ #[rawInt pos.line, rawInt pos.col, .ref c']).toList = ps.toList ++ [rawInt pos.line, rawInt pos.col, .ref c'] := by simp
    refine h h'.objs.size c' _ ctv _ _ (LamX.inv_table I hP (fun b o hb e => Heap.get?_push_of_some _ (hx b o hb e)) (Heap.get?_push_of_some _ htb) hge ⟨oc, vs, t, Heap.get?_push_of_some _ hoc, hd, hv⟩)
      (.new nC hP (by rw [eL]; exact PySem.TriplesOk_snoc _ _ _ _ ht) fun p' cv hcv => ?_) (Heap.get?_push_size _ rfl) ?_ (far _ hsz) upd_same
    · rw [eL] at hcv
      exact LamX.among_app _ ht hcv
    · rw [upd_ne (Nat.ne_of_gt hlt), upd_ne (Nat.ne_of_gt (Nat.lt_of_lt_of_le (Heap.lt_size hP') hsz))]
      exact I.hok.fresh hsz
/-- x(lambda: body), its table told -/
def tLamM (q : Str) (P : Addr) (TT : (XK → Hp → VK → Prop) → Hp → VK → Prop) (t : XK → TE) : TE := fun σ H Q => TabF H H P q ∧ ∀ c' H1, Made q P H c' H1 → TT (fun E H' Q' => t E σ H' Q') H1 Q
theorem pe_lamM {TT : (XK → Hp → VK → Prop) → Hp → VK → Prop} {x a q : Str} {g c P : Addr} {k : Nat} {pg : Arguments} {bg : List Stmt} {sg : Scope} {dV kV doc pm cdv ct oc : Value} {an od : Option Addr} {osl : Array (Option Value)} {Ng : List Str}
    {params : Arguments} {body : Expr} {scope : Scope} {t : XK → TE} {p lpos pos : Pos} (hg : Gl X x) (hm : X.mg x = some (.ref g)) (hk : PySem.W.keepIn X.K (.ref g) = true)
    (lk : X.K.lookup g = some ⟨oc, od, .func (PySem.W.fnOf x x pg bg sg dV kV doc pm an cdv ct), osl⟩) (hcg : PySem.W.codeIn X.K cdv x = true) (hb : L2.Binds X.K (PySem.W.fnOf x x pg bg sg dV kV doc pm an cdv ct) [a] []) (Sg : FnScope Ng [a] sg) (hNg : Ng[0]? = some a) (hva : Vis sg a)
    (hq : X.env.qual ++ "<lambda>" = q) (hG : LamX.GivesTo X Ng x sg g cdv bg a q TT)
    (TB : LamX.TabB X.base X.mg c P) (hcode : X.env.code = .ref c) (hr : Room (k + 2) X.A) (L : LamX.LamS X.env.scope scope) (hdef : defaultsOf params X.env = ([], []))
    (hbind : ∀ (q : Str) (cl : List (Str × Addr)) (pm cv ctv : Value), bindArgs (PySem.W.kla_fn "<lambda>" q params body scope cl pm cv ctv) ⟨[], []⟩ = pure [])
    (hbody : ∀ (A : Around) (outer : List Env) (s : Shared) (H : Hp) (E : XK) (f c' : Addr), Room k (A.deeper (LamX.lamEnv X scope s.heap.objs.size f c')) → PE (LamX.lamCx X A outer s H E scope f c') body (t E))
    (hdb : (x == ("__debug__" : Str)) = false := by decide) (hd : (a == ("__debug__" : Str)) = false := by decide) (hcd : (a == ("__classdict__" : Str)) = false := by decide) :
    PE X (.Call (.Name x p) [.Lambda params body scope lpos] [] pos) (tLamM q P TT t) := by
  subst hq
  refine ⟨fun pins s σ H Q I h => ?_⟩
  refine wpAny_Call_Name_kw (ld_glob I hg hm ?_ hdb)
  refine PySem.W.callWith_K (h₀ := X.base) I.ok.mod.kin hk ?_ (by rfl) (by rfl)
  show wpAny _ _ (spliced ((false, eval (.Lambda params body scope lpos) X.env) :: backTo pos (starEach [] X.env))) _ _ s
  refine Calls.spliced_cons (lam_made I TB hcode rfl h.1 hdef (L.has I.ok) fun f c' pm' ctv H1 s' I1 md hf hfn hfr hco => ?_)
  refine Calls.spliced_nil ⟨I1.kIn, ?_⟩
  refine wpAny_call (codeAny_mono (LamX.run_ofS (CX := C8.CX0) (E := C8.E0) (Q := Q) (N := Ng) (ps := [a]) (us := [.ref f]) (vs := [.ref f]) lk hcg Sg hr I1.env0 (hb s' [.ref f] I1.kIn rfl) (.cons rfl .nil) rfl fun hr' => ?_) fun r s2 hq => ?_)
  · obtain ⟨t', ht', hq'⟩ := hG f c' s' H1 Q (fun E H' Q' => t E σ H' Q') (fun W pn xe E p1 p2 tk hW => LamX.pe_act (i := 0) I1 L hf hfn hfr (hbind _ _ _ _ _) tk hW hr' (fun A outer s H hr2 => hbody A outer s H E f c' hr2) hNg hva hd hcd) hco (h.2 c' H1 md)
    exact ⟨t', ht'.nox, hq'⟩
  · cases r with
    | error e => exact (show False from hq).elim
    | ok fl =>
      cases fl with
      | ret u => exact I1.after hq
      | next => exact False.elim hq
      | brk => exact False.elim hq
      | cont => exact False.elim hq
end
end DL

set_option Elab.async false
set_option linter.all false
set_option maxRecDepth 100000
set_option maxHeartbeats 2000000
/-! DTold: try, its first clause meets all that is raised; and a def that tries what it got. -/
namespace DL
open PySem PySem.Spec PyProof.Rows L2 TL
section
variable {X : Cx} {x n : Str} {c : Value} {i : Nat} {body suite : List Stmt} {b₀ : Stmt} {np pos pos' : Pos} {tb : WX → TS} {ts : Addr → Value → Option Addr → TS} {hds : List ExceptHandler}
/-- the first clause meets it -/
def wFst (K : PySem.W.Frag) (c : Value) (i : Nat) (ts : Addr → Value → Option Addr → TS) (D : Ends) : WX := fun cls d σ H =>
  PySem.W.exmOne K cls c = some true ∧ ∀ a, H a = none → ts a cls d { nx := fun σ' H' => D.nx (σ'.set i none) H', rt := D.rt, bk := fun σ' H' => D.bk (σ'.set i none) H', ct := fun σ' H' => D.ct (σ'.set i none) H' } (σ.set i (some (.ref a))) H
theorem ps_try_fst (hs : X.stack = X.env :: X.outer) (hf : X.env.frame = some X.env.locals) (hN : X.N.Nodup) (hi : X.N[i]? = some n) (hln : X.env.kindOf n = some .local) (hc : Names X x c)
    (hb : ∀ (W : WX) (pn : List (Addr × Obj)) (xe : Value → Shared → Prop), Takes (X.tr pn xe) W → PassesOwn (model X.prog X.w) X.A X.env xe → PSs (X.tr pn xe) body (tb W))
    (hsu : ∀ (a : Addr) (oe : Obj) (cls : Value) (d : Option Addr) (pn : List (Addr × Obj)), Zc cls d oe → (∃ vs, oe.data = .fields vs) → PSs (X.suite a ((a, oe) :: pn)) (b₀ :: suite) (ts a cls d)) :
    PS X (.Try body (.ExceptHandler (some (.Name x np)) (some n) (b₀ :: suite) pos' :: hds) [] [] pos) (fun D σ H => tb (wFst X.K c i ts D) D σ H) := by
  refine ⟨fun pins s σ H D I h => ?_⟩
  have ok := I.ok
  have hfr : X.A.frames = some (X.env :: X.outer) := by rw [ok.frames, hs]
  refine wpAny_Try_except ?_
  refine wpAny_mono ((hb (wFst X.K c i ts D) (X.pn ++ pins) (fun e s₁ => wpAny (model X.prog X.w) X.A (noteFrame e X.env) (fun _ s₂ => wpAny (model X.prog X.w) X.A (setFlight e none) (fun _ s₃ =>
    wpAny (model X.prog X.w) X.A (handleBy e X.env (.ExceptHandler (some (.Name x np)) (some n) (b₀ :: suite) pos' :: hds)) (SP X pins D) X.xe s₃) X.xe s₂) X.xe s₁) (fun u s' xx => ?_) PassesOwn.looking).run [] s σ H D (I.toTry _) h) (fun f s1 hsp => ?_) (fun e s1 he => he)
  · obtain ⟨a, B, sI, pins', σ', H', cls, d, rfl, J', nb, up, sky, na, os, ag, hb1, hyes⟩ := xx
    have J : L2.Inv X pins σ' H' sI := J'.ofTry ok
    have sky' : Sky B (X.env :: X.outer) a (Zc cls d) X.env.locals s'.heap := by rw [← hs]; exact sky
    show wpAny (model X.prog X.w) X.A (noteFrame (.ref a) X.env) _ _ _
    refine Sky.land Zc.steady hfr hf sky' fun h3 fl3 up3 => ?_
    have J3 : L2.Inv X pins σ' H' { s' with heap := h3 } := J.landed nb fl3.1 (up.trans up3) os ag
    obtain ⟨oe3, vs3, he3, hz3, hd3⟩ := fl3.there
    have nfr : a ∉ frs (X.env :: X.outer) := fun hm => by
      obtain ⟨_, o', e', hnf⟩ := fl3.2.2.1.mem hm
      rw [he3] at e'; cases e'
      exact hnf _ hd3
    have nL : a ≠ X.env.locals := fun z => nfr (List.mem_filterMap.mpr ⟨X.env, List.mem_cons_self, by rw [hf, z]⟩)
    have nF : a ∉ X.fs := fun hm => by
      obtain ⟨e, he, q⟩ := List.mem_filterMap.mp hm
      exact nfr (List.mem_filterMap.mpr ⟨e, List.mem_cons_of_mem _ he, q⟩)
    have S3 := J3.suite he3 hd3 na nL nF
    refine wpAny_handleBy_cons (codeAny_handlers_test ?_) (by intro q; cases q)
    have LT : PySem.W.Looks (model X.prog X.w) h3 (typeOf (.ref a)) cls := fun A Q E s k q => wpAny_typeOf_ref (k _ _ he3) (by rw [hz3.1]; exact q)
    have LM := PySem.W.exm_one (M := model X.prog X.w) (J3.kIn) LT hb1
    have test : ∀ {Q : Value → Shared → Prop} {E : Value → Shared → Prop}, Q c { s' with heap := h3 } → wpAny (model X.prog X.w) (X.A.mark (some (.ref a))) (eval (.Name x np) X.env) Q E { s' with heap := h3 } := fun {Q E} q => by
      obtain ⟨hg, hdbg, hm | ⟨hm, hv, hnn⟩⟩ := hc
      · exact ld_glob (X := X.suite a ((a, oe3) :: (X.pn ++ pins))) S3 hg hm q hdbg
      · exact ld_blt (X := X.suite a ((a, oe3) :: (X.pn ++ pins))) S3 hg hm hv q hnn hdbg
    refine test (LM.here ?_)
    refine codeAny_handlers_suite_as ?_
    refine HandSPX.lands_againZ fl3 fun h4 fl4 up4 => ?_
    have J4 : L2.Inv X pins σ' H' { s' with heap := h4 } := J.landed nb fl4.1 ((up.trans up3).trans up4) os ag
    obtain ⟨oe4, vs4, he4, hz4, hd4⟩ := fl4.there
    have S4 := J4.suite he4 hd4 na nL nF
    refine store_ok (X := X.suite a ((a, oe4) :: (X.pn ++ pins))) (v := .ref a) S4 hN hi (.inl hln) rfl (fun s5 S5 => ?_) (.inr hln)
    refine wpAny_mono ((hsu a oe4 cls d (X.pn ++ pins) hz4 ⟨_, hd4⟩).run [] s5 _ H' _ S5 (hyes a na)) (fun f s6 hsp => ?_) (fun _ _ z => False.elim z)
    have end_ : ∀ {σ6 : L2.St} {H6 : Hp} {Q : Shared → Prop}, L2.Inv (X.suite a ((a, oe4) :: (X.pn ++ pins))) [] σ6 H6 s6 → (∀ s7, L2.Inv X pins (σ6.set i none) H6 s7 → Q s7) →
        wpAny (model X.prog X.w) X.A (do bindName X.env n .none; unbindBehindTheSuite X.env n pos') (fun _ s7 => Q s7) X.xe s6 := fun {σ6 H6 Q} S6 hq => gone_ok (S6.unsuite ok) hN hi hln hq
    cases f with
    | next =>
      obtain ⟨σ6, H6, S6, q6⟩ := hsp
      exact end_ S6 fun s7 J7 => ⟨_, _, J7, q6⟩
    | brk =>
      obtain ⟨σ6, H6, S6, q6⟩ := hsp
      exact end_ S6 fun s7 J7 => ⟨_, _, J7, q6⟩
    | cont =>
      obtain ⟨σ6, H6, S6, q6⟩ := hsp
      exact end_ S6 fun s7 J7 => ⟨_, _, J7, q6⟩
    | ret u =>
      obtain ⟨v6, σ6, H6, S6, r6, q6⟩ := hsp
      exact end_ S6 fun s7 J7 => ⟨_, _, _, J7, r6, q6⟩
  · cases f with
    | next =>
      obtain ⟨σ', H', J', q⟩ := hsp
      exact wpAny_execs_nil ⟨σ', H', J'.ofTry ok, q⟩
    | brk =>
      obtain ⟨σ', H', J', q⟩ := hsp
      exact ⟨σ', H', J'.ofTry ok, q⟩
    | cont =>
      obtain ⟨σ', H', J', q⟩ := hsp
      exact ⟨σ', H', J'.ofTry ok, q⟩
    | ret u =>
      obtain ⟨v, σ', H', J', r, q⟩ := hsp
      exact ⟨v, σ', H', J'.ofTry ok, r, q⟩
end
section
variable {X : Cx}
/-- what a def that tries what it got makes of it -/
def TTfst (K : PySem.W.Frag) (c : Value) (i m : Nat) (ts : Addr → Value → Option Addr → TS) : (XK → Hp → VK → Prop) → Hp → VK → Prop := fun tl H Q =>
  ∃ E : XK, tl E H Q ∧ ∀ cls d H', E cls d H' → PySem.W.exmOne K cls c = some true ∧ ∀ a, H' a = none → ∀ σ : L2.St, σ.length = m → ts a cls d { nx := fun _ _ => False, rt := Q } (σ.set i (some (.ref a))) H'
/-- try: return a() / except x as n: suite / .. -/
theorem gives_fst {Ng : List Str} {x a e n q : Str} {sg : Scope} {g CS : Addr} {cdg : Value} {i : Nat} {hds : List ExceptHandler} {b₀ : Stmt} {suite : List Stmt} {ts : Addr → Value → Option Addr → TS} {p1 p2 p3 p4 p7 p8 : Pos}
    (hge : sg.names.lookup e = some .globalImplicit) (hme : X.mg e = some (.ref CS)) (hde : (e == ("__debug__" : Str)) = false) (hN : Ng.Nodup) (hi : Ng[i]? = some n) (hln : sg.names.lookup n = some .local) (h0 : ∀ f : Addr, (L2.start Ng [V.ref f])[0]? = some (some (V.ref f)))
    (hnx : ∀ a cls d (D D' : Ends) σ H, ts a cls d D σ H → D.rt = D'.rt → (∀ σ H, D.nx σ H → D'.nx σ H) → (∀ σ H, D.bk σ H → D'.bk σ H) → (∀ σ H, D.ct σ H → D'.ct σ H) → ts a cls d D' σ H)
    (hsu : ∀ (f : Addr) (s : Shared) (H : Hp) (a : Addr) (oe : Obj) (cls : Value) (d : Option Addr) (pn : List (Addr × Obj)), Zc cls d oe → (∃ vs, oe.data = .fields vs) → PSs ((cxOf C8.CX0 X.prog X.w X.K X.mg X.base Ng x sg g cdg X.A X.stack s H C8.E0).nox.suite a ((a, oe) :: pn)) (b₀ :: suite) (ts a cls d)) :
    LamX.GivesTo X Ng x sg g cdg [.Try [.Return (some (.Call (.Name a p1) [] [] p2)) p3] (.ExceptHandler (some (.Name e p4)) (some n) (b₀ :: suite) p7 :: hds) [] [] p8] a q (TTfst X.K (.ref CS) i Ng.length ts) := by
  intro f c' s H Q tl act hc h
  obtain ⟨E, h, hE⟩ := h
  have hgl : Gl (cxOf C8.CX0 X.prog X.w X.K X.mg X.base Ng x sg g cdg X.A X.stack s H C8.E0).nox e := hge
  refine ⟨_, pss_one (ps_try_fst (X := (cxOf C8.CX0 X.prog X.w X.K X.mg X.base Ng x sg g cdg X.A X.stack s H C8.E0).nox) (c := .ref CS)
      (tb := fun W D σ H => ∃ Ech : XK, (∀ cls d σ' H', σ'.length = Ng.length → Ech cls d H' → W cls d σ' H') ∧ σ[0]? = some (some (.ref f)) ∧ H c' = some (LamX.CodeO c' q) ∧ tl Ech H D.rt)
      rfl rfl hN hi hln ⟨hgl, hde, .inl hme⟩ (fun W pn xe tk _ => ?_) (hsu f s H)), ?_⟩
  · refine ⟨fun pins s' σ H' D I h' => ?_⟩
    obtain ⟨Ech, hW, h1, h2, h3⟩ := h'
    have hp := act (fun cls d _ H => Ech cls d H) pn xe Ech p1 p2 (fun u s' ⟨a, B, sI, pins, σ, H, cls, d, e, I, nb, up, sky, na, os, ag, w⟩ => tk u s' ⟨a, B, sI, pins, σ, H, cls, d, e, I, nb, up, sky, na, os, ag, hW cls d σ H I.len w⟩) (fun _ _ _ _ z => z)
    exact (pss_one (ps_ret (pos := p3) hp)).run pins s' σ H' D I ⟨h1, h2, h3⟩
  · exact ⟨E, fun cls d σ' H' hl w => ⟨(hE cls d H' w).1, fun a ha => hnx a cls d _ _ _ _ ((hE cls d H' w).2 a ha σ' hl) rfl (fun _ _ z => z.elim) (fun _ _ z => z.elim) (fun _ _ z => z.elim)⟩, h0 f, hc, h⟩
end
end DL

set_option Elab.async false
set_option linter.all false
set_option maxRecDepth 100000
set_option maxHeartbeats 2000000
/-! DTry: what a def that tries it makes of a lambda, over data. -/
namespace DL
open PySem PySem.Spec PyProof.Rows L2 TL
variable {XW : DXK}
/-- told(lambda: body): body's value, or what the clause makes of what is raised -/
def dTold (q : Str) (P C : Addr) (i m : Nat) (ts : Addr → Addr → DTS) (tb : DXK → DTE) (S : DSt) (O : Own) (Q : DVK) : Prop :=
  O P = some (.tbl q) ∧ ∃ XWb : DXK, tb XWb S O Q ∧ ∀ C' fs O', XWb C' fs O' → C' = C ∧ ∃ l, fs = some l ∧
    ∀ a dd, O' a = none → O' dd = none → ts a dd { nx := fun _ _ => False, rt := Q } ((List.replicate m none).set i (some (.ref a))) (oset O' dd (.xd l))
def tsL (K : PySem.W.Frag) (C : Addr) (ts : Addr → Addr → DTS) (a : Addr) (cls : Value) (d : Option Addr) : TS := fun D σ H => ∃ dd, cls = .ref C ∧ d = some dd ∧ liftS ⟨K, X0, L2.E0⟩ (ts a dd) D σ H
theorem tsL_nx {K : PySem.W.Frag} {C : Addr} {ts : Addr → Addr → DTS} : ∀ a cls d (D D' : Ends) σ H, tsL K C ts a cls d D σ H → D.rt = D'.rt → (∀ σ H, D.nx σ H → D'.nx σ H) → (∀ σ H, D.bk σ H → D'.bk σ H) → (∀ σ H, D.ct σ H → D'.ct σ H) → tsL K C ts a cls d D' σ H := by
  rintro a cls d D D' σ H ⟨dd, e1, e2, F, O, S, DD, rs, sr, h, fin⟩ h1 h2 h3 h4
  exact ⟨dd, e1, e2, F, O, S, DD, rs, sr, h, fun S1 O1 q σ1 H1 F1 s s' => h2 _ _ (fin.nx S1 O1 q σ1 H1 F1 s s'), fun v O1 q v1 H1 F1 s s' => h1 ▸ fin.rt v O1 q v1 H1 F1 s s', fun S1 O1 q σ1 H1 F1 s s' => h3 _ _ (fin.bk S1 O1 q σ1 H1 F1 s s'), fun S1 O1 q σ1 H1 F1 s s' => h4 _ _ (fin.ct S1 O1 q σ1 H1 F1 s s')⟩
/-- the heap behind the making, from the state ahead -/
theorem RS.made {K : KG} {F H H1 : Hp} {O : Own} {P c' : Addr} {q : Str} (rs : RS K F O H) (hP : O P = some (.tbl q)) (m : Made q P H c' H1) : ∃ F1, Stp K F O H F1 O H1 := by
  obtain ⟨hf, ps, e1, e2, e3⟩ := rs.own P _ hP
  cases m with
  | old _ => exact ⟨F, Stp.refl rs⟩
  | @new ps0 ps' nC hP0 ht' hn =>
    rw [e1] at hP0
    cases hP0
    obtain ⟨fC, oC⟩ := rs.free nC
    have hPc : P ≠ c' := fun z => by rw [z, oC] at hP; cases hP
    have sub : Sub F (upd F c' (LamX.CodeO c' q)) := Sub.upd fC
    have at_ : ∀ b, b ≠ P → b ≠ c' → upd (upd H P (.tbl ps')) c' (LamX.CodeO c' q) b = H b := fun b h1 h2 => by rw [upd_ne h2, upd_ne h1]
    refine ⟨_, Stp.mk' rs sub ⟨fun b u e => ?_, fun b c e => ?_⟩ (fun b u h1 h2 => ?_) (fun b u h1 h2 h3 => ?_)⟩
    · by_cases hb : b = c'
      · subst hb; rw [upd_same] at e ⊢; exact .inl e
      · rw [upd_ne hb] at e
        have hbP : b ≠ P := fun z => by rw [z, hf] at e; cases e
        rw [at_ b hbP hb]; exact rs.fro b u e
    · have hb : b ≠ c' := fun z => by rw [z, oC] at e; cases e
      obtain ⟨h1, h2⟩ := rs.own b c e
      refine ⟨by rw [upd_ne hb]; exact h1, ?_⟩
      by_cases hbP : b = P
      · subst hbP
        rw [hP] at e
        cases e
        refine ⟨ps', by rw [upd_ne hb, upd_same], ht', fun pos cv z => ?_⟩
        rcases hn pos cv z with z | z
        · obtain ⟨c, g1, g2⟩ := e3 pos cv z
          exact ⟨c, g1, sub _ _ g2⟩
        · exact ⟨c', z, upd_same⟩
      · exact h2.mono sub (at_ b hbP hb)
    · have hb : b ≠ c' := fun z => by rw [z, nC] at h1; cases h1
      have hbP : b ≠ P := fun z => by rw [z, hP] at h2; cases h2
      exact ⟨by rw [at_ b hbP hb]; exact h1, h2⟩
    · have hb : b ≠ c' := fun z => by rw [z, nC] at h1; cases h1
      rw [upd_ne hb]; exact h3
theorem RS.tabF {K : KG} {F H : Hp} {O : Own} {P : Addr} {q : Str} (rs : RS K F O H) (hP : O P = some (.tbl q)) : TabF H H P q := by
  obtain ⟨hf, ps, e1, e2, e3⟩ := rs.own P _ hP
  exact ⟨ps, e1, e2, fun pos cv z => let ⟨c, g1, g2⟩ := e3 pos cv z; ⟨c, g1, rs.plain g2 (fun z => z)⟩⟩
section
variable {X : Cx}
theorem de_told {x a e n q : Str} {st : Stmt} {g c P C : Addr} {k : Nat} {fd : FuncData} {Ng : List Str} {params : Arguments} {body : Expr} {scope : Scope} {p lpos pos p1 p2 p3 p4 p7 p8 : Pos} {i : Nat} {hds : List ExceptHandler} {b₀ : Stmt} {suite : List Stmt} {ts : Addr → Addr → DTS} {tb : DXK → DTE}
    (F : Fun X.K x x st g fd) (hb : L2.Binds X.K fd [a] []) (hm : X.mg x = some (.ref g)) (Sg : FnScope Ng [a] (defScope st))
    (hst : defBody st = [.Try [.Return (some (.Call (.Name a p1) [] [] p2)) p3] (.ExceptHandler (some (.Name e p4)) (some n) (b₀ :: suite) p7 :: hds) [] [] p8])
    (hme : X.mg e = some (.ref C)) (te : PySem.W.exmOne X.K (.ref C) (.ref C) = some true)
    (hsu : ∀ (cdv : Value) (f : Addr) (s : Shared) (H : Hp) (a : Addr) (oe : Obj) (dd : Addr) (pn : List (Addr × Obj)), Zc (.ref C) (some dd) oe → (∃ vs, oe.data = .fields vs) → DSs X0 ((cxOf C8.CX0 X.prog X.w X.K X.mg X.base Ng x (defScope st) g cdv X.A X.stack s H C8.E0).nox.suite a ((a, oe) :: pn)) (b₀ :: suite) (ts a dd))
    (hq : X.env.qual ++ "<lambda>" = q) (TB : LamX.TabB X.base X.mg c P) (hcode : X.env.code = .ref c) (hr : Room (k + 2) X.A) (L : LamX.LamS X.env.scope scope) (hdef : defaultsOf params X.env = ([], []))
    (hbind : ∀ (q : Str) (cl : List (Str × Addr)) (pm cv ctv : Value), bindArgs (PySem.W.kla_fn "<lambda>" q params body scope cl pm cv ctv) ⟨[], []⟩ = pure [])
    (hbody : ∀ (XWb : DXK) (A : Around) (outer : List Env) (s : Shared) (H : Hp) (E : XK) (f c' : Addr), Room k (A.deeper (LamX.lamEnv X scope s.heap.objs.size f c')) → DE XWb (LamX.lamCx X A outer s H E scope f c') body (tb XWb))
    (hge : (defScope st).names.lookup e = some .globalImplicit := by rfl) (hN : Ng.Nodup := by decide) (hi : Ng[i]? = some n := by rfl) (hln : (defScope st).names.lookup n = some .local := by rfl) (hNg : Ng[0]? = some a := by rfl) (hva : Vis (defScope st) a := by first | exact .inl rfl | exact .inr (.inl rfl) | exact .inr (.inr rfl))
    (h0 : ∀ f : Addr, (L2.start Ng [V.ref f])[0]? = some (some (V.ref f)) := by intro f; rfl)
    (hg : Gl X x := by rfl) (hdb : (x == ("__debug__" : Str)) = false := by decide) (hd : (a == ("__debug__" : Str)) = false := by decide) (hcd : (a == ("__classdict__" : Str)) = false := by decide) (hde : (e == ("__debug__" : Str)) = false := by decide) :
    DE XW X (.Call (.Name x p) [.Lambda params body scope lpos] [] pos) (dTold q P C i Ng.length ts tb) := by
  obtain ⟨oc, od, kV, doc, pm, an, cdv, ct, osl, rfl, lk, hcg⟩ := F.ex
  rw [hst] at lk hb
  refine ⟨fun g0 hg0 => PE_imp (pe_lamM (t := fun E σ H Q => ∃ XWb : DXK, liftE ⟨X.K, XWb, E⟩ (tb XWb) σ H Q) hg hm F.kp lk hcg hb Sg hNg hva hq
    (gives_fst (ts := tsL X.K C ts) (i := i) hge hme hde hN hi hln h0 tsL_nx (fun f s H a oe cls d pn hz hf => ?_)) TB hcode hr L hdef hbind (fun A outer s H E f c' hr2 => ?_) hdb hd hcd) ?_⟩
  · refine ⟨fun pins s' σ H' D I h => ?_⟩
    obtain ⟨dd, rfl, rfl, h⟩ := h
    exact ((hsu cdv f s H a oe dd pn hz hf).ps (X0, L2.E0) (good_of (takesL) fun _ _ _ h => h)).run pins s' σ H' D I h
  · refine ⟨fun pins s' σ H' Q I h => ?_⟩
    obtain ⟨XWb, h⟩ := h
    exact ((hbody XWb A outer s H E f c' hr2).pe (XWb, E) (good_of (takes_of rfl rfl rfl rfl) fun _ _ _ h => h)).run pins s' σ H' Q I h
  · rintro σ H VQ ⟨F0, O, S, Q, rs, sr, ⟨hP, XWb, h1, h2⟩, fin⟩
    refine ⟨rs.tabF hP, fun c' H1 md => ?_⟩
    obtain ⟨F1, s1⟩ := rs.made hP md
    refine ⟨fun cls d H' => PySem.W.exmOne X.K cls (.ref C) = some true ∧ ∀ a, H' a = none → ∀ σ : L2.St, σ.length = Ng.length → tsL X.K C ts a cls d { nx := fun _ _ => False, rt := VQ } (σ.set i (some (.ref a))) H', ⟨XWb, F1, O, S, Q, ⟨s1.rs.fro, s1.rs.own, ?_⟩, sr.mono s1.sub, h1, fun d O' qd v H' F' st rv => (fin.step s1) d O' qd v H' F' (st.up s1.rs) rv⟩, fun _ _ _ z => z⟩
    intro C' fs O' qx d H' F' raw rs0 xat fresh
    obtain ⟨rfl, l, rfl, hh⟩ := h2 _ _ _ qx
    obtain ⟨dd, fvs, rfl, e1, e2, e3, e4⟩ := xat
    refine ⟨te, fun a ha σ' hl => ⟨dd, rfl, rfl, F', oset O' dd (.xd l), _, { nx := fun _ _ => False, rt := Q }, ⟨rs0.fro, fun b c eb => ?_, fun _ _ _ h => h.elim⟩, ?_, hh a dd ?_ e3, ?_⟩⟩
    · by_cases hb : b = dd
      · subst hb; rw [oset_same] at eb; cases eb
        exact ⟨e2, fvs, e1, e4⟩
      · rw [oset_ne hb] at eb; exact rs0.own b c eb
    · have base : SR X.K F' σ' (List.replicate Ng.length none) := ⟨by simp [hl], fun j d e => by
        rw [List.getElem?_replicate] at e
        split at e <;> cases e⟩
      exact base.set i (.ref a)
    · cases e : O' a with
      | none => rfl
      | some c =>
        obtain ⟨o, z⟩ := (rs0.own a c e).2.some
        rw [ha] at z; cases z
    · refine ⟨fun _ _ h => h.elim, fun d O2 q2 v H2 F2 s rv => ?_, fun _ _ h => h.elim, fun _ _ h => h.elim⟩
      refine (fin.step s1) d O2 q2 v H2 F2 (Stp.mk' s1.rs (raw.sub.trans s.sub) s.rs.z (fun b o b1 b2 => ?_) (fun b o b1 b2 b3 => ?_)) rv
      · obtain ⟨c1, c2⟩ := raw.keep b o b1 b2
        have hb : b ≠ dd := fun z => fresh dd o rfl (z ▸ b1) (z ▸ b2)
        exact s.keep b o c1 (by rw [oset_ne hb]; exact c2)
      · obtain ⟨c1, c2⟩ := raw.keep b o b1 b2
        have hb : b ≠ dd := fun z => fresh dd o rfl (z ▸ b1) (z ▸ b2)
        exact s.nof b o c1 (by rw [oset_ne hb]; exact c2) (raw.nof b o b1 b2 b3)
end
section
variable {P : Program} {w : World} {K : PySem.W.Frag} {mg : Str → Option Value} {base : Heap}
/-- as DFun.ok, the def's code object told -/
theorem DFun.okC {x qual : Str} {st : Stmt} {f c : Addr} {fd : FuncData} {N ps : List Str} {k : Nat} {sp : DSp} (hc : fd.code = .ref c) (F : Fun K x qual st f fd) (S : FnScope N ps (defScope st)) (hn : ps.length ≤ N.length) (len : ∀ ds O Q E, sp ds O Q E → ds.length = ps.length)
    (hbody : ∀ (A : Around) (outer : List Env) (s : Shared) (H : Hp) (E : XK) (ds : List DV) (O : Own) (Q : DVK) (ED : DXK), Room k (A.deeper (envOfC qual (defScope st) s.heap.objs.size f (.ref c))) → sp ds O Q ED →
      ∃ t, DSs X0 (cxOf CX0 P w K mg base N qual (defScope st) f (.ref c) A outer s H E).nox (defBody st) t ∧ t { nx := fun _ O' => Q .non O', rt := Q } (dstart N.length ds) O) : FnOk P w K mg base CX0 (k + 1) f fd ps (liftSp K sp) := by
  have h := F
  obtain ⟨oc, od, kV, doc, pm, an, cdv, ct, osl, rfl, lk, hcd⟩ := F.ex
  have ec : cdv = .ref c := hc
  subst ec
  refine fn_of lk hcd S (fun vs H Q E h => ?_) fun A outer s H vs Q E hr hsp => ?_
  · obtain ⟨F, O, ds, QD, ED, rs, r, h, _⟩ := h
    rw [r.len]; exact len _ _ _ _ h
  · obtain ⟨F, O, ds, QD, ED, rs, r, h, fin, _⟩ := hsp
    obtain ⟨t, h1, h2⟩ := hbody A outer s H E ds O QD ED hr h
    refine ⟨_, (h1.ps (X0, L2.E0) (good_of (takesL) fun _ _ _ h => h)).nox, F, O, _, _, rs.low, ?_, h2, body_fin fin.up⟩
    have hl := len _ _ _ _ h
    rw [dstart_eq (by omega)]
    exact SR.start N r
end
/-- the law's own end, a table beside -/
def spLawT (P : Addr) (q : Str) : DSp := fun ds O Q _ => ∃ (ns : List Int), ds = [.slst (ns.map DV.int)] ∧ ns.length ≤ 63 ∧ O P = some (.tbl q) ∧ ∀ O', Q (.bl true) O'
/-- what a slot holds is let go, ahead of a statement -/
def dFz (i : Nat) (t : DTS) (D : DEnds) (S : DSt) (O : Own) : Prop := onSome (slot S i) fun x => kRef (fun a O1 => onL (O1 a) fun xs => t D (S.set i (some (.lst xs))) (odel O1 a)) x O
theorem ds_fz {XW : DXK} (i : Nat) {X : Cx} {st : Stmt} {t : DTS} (h : DS XW X st t) : DS XW X st (dFz i t) := by
  refine ⟨fun g0 hg0 => PS_imp (h.ps g0 hg0) ?_⟩
  rintro VD σ H ⟨F, O, S, D, rs, sr, h, fin⟩
  obtain ⟨x, e, h⟩ := onSome_ex h
  obtain ⟨a, rfl, h⟩ := kRef_ex h
  obtain ⟨xs, hO, h⟩ := onL_ex h
  obtain ⟨v, hv, r1⟩ := sr.2 i _ (slot_get e)
  cases r1
  obtain ⟨F', st', rep⟩ := rs.freezeL hO
  exact ⟨F', odel O a, _, D, st'.rs, SR.put (sr.mono st'.sub) i hv rep, h, fin.step st'⟩
end DL

set_option Elab.async false
set_option linter.all false
set_option maxRecDepth 100000
set_option maxHeartbeats 4000000
namespace DL
open PySem PySem.Spec PyProof.Rows L2 TL
/-! ### the end of a law whose defs make lambdas: tables that are empty at the start -/
theorem not_tbl {K : PySem.W.Frag} {H : Hp} {a P : Addr} {vs : List V} (h : SqL K H a vs) (hP : H P = some (.tbl #[])) (kP : K.lookup P = none) : a ≠ P := by
  rintro rfl
  rcases h with h | ⟨o, its, n, h, _⟩
  · rcases h with h | ⟨o, h⟩
    · rw [hP] at h; cases h
    · rw [hP] at h; cases h
  · rw [kP] at h; cases h
theorem law_spT {K : PySem.W.Frag} {H : Hp} {a P : Addr} {q : Str} {ns : List Int} (hl : ns.length ≤ 63) (hP : H P = some (.tbl #[])) (kP : K.lookup P = none) (h : SqL K H a (ns.map V.int)) : liftSp K (spLawT P q) [.ref a] H (fun v _ => v = .bl true) fun _ _ _ => False := by
  have hne := not_tbl h hP kP
  have hS : SqL K (fun b => if b = P then none else H b) a (ns.map V.int) := by
    rcases h with h | h
    · refine .inl ?_
      rcases h with h | ⟨o, h⟩
      · exact .inl ((if_neg hne).trans h)
      · exact .inr ⟨o, (if_neg hne).trans h⟩
    · exact .inr h
  refine ⟨fun b => if b = P then none else H b, fun b => if b = P then some (.tbl q) else none, [.slst (ns.map DV.int)], fun d _ => d = .bl true, X0, ⟨fun b o e => ?_, fun b c e => ?_⟩, .cons (.slst hS (Reps.of_ints ns)) .nil, ⟨ns, rfl, hl, if_pos rfl, fun _ => rfl⟩, ?_, x0_fin⟩
  · by_cases hb : b = P
    · rw [if_pos hb] at e; cases e
    · rw [if_neg hb] at e; exact .inl e
  · by_cases hb : b = P
    · rw [if_pos hb] at e; cases e
      refine ⟨if_pos hb, #[], hb ▸ hP, (by trivial), fun pos cv z => ?_⟩
      cases z
    · rw [if_neg hb] at e; cases e
  · rintro d O' rfl v H' F' _ _ r
    cases r; rfl
theorem tabIn_of {K : PySem.W.Frag} {x : Str} {f c P : Addr} {o1 o2 : Option Addr} {cl cl2 : Value} {fd : FuncData} {s1 s2 : Array (Option Value)} {vs : Array Value} (h1 : PySem.W.nsIn K mainGlobals x = some (some (.ref f))) (h2 : K.lookup f = some ⟨cl, o1, .func fd, s1⟩) (h3 : fd.code = .ref c) (h4 : K.lookup c = some ⟨cl2, o2, .fields vs, s2⟩) (h5 : vs[11]? = some (.ref P)) : PySem.W.tabIn K x = some (c, P) := by
  unfold PySem.W.tabIn
  rw [h1]; dsimp only
  rw [h2]; dsimp only
  rw [h3]; dsimp only
  rw [h4]; dsimp only
  rw [h5]
theorem walkT (x : Str) {l : PySem.W.OpenLaw} {q : Program} {loose : List Str} {XP : (Str → Option Value) → Heap → Prop} {YP : World → Heap → Prop} {d : DefRec} {K : Params → PySem.W.Frag} {k : Nat} (hk : k ≤ 200) (hn : l.most = some 63) (hdf : d.params.defaults = [])
    (hrec : ((recsOf q).find? fun e => e.name == x).isSome = true)
    (hY : ∀ (w : World) (h : Heap), YP w h → (K w.params).In h)
    (F : ∀ (w : World) (mg : Str → Option Value) (fa : Addr) (h : Heap), (K w.params).In h → h.Ns mainGlobals mg → mg d.name = some (.ref fa) →
      ∃ (fd : FuncData) (c P : Addr) (qs : Str), PySem.W.tabIn (K w.params) x = some (c, P) ∧ (K w.params).lookup P = none ∧ (∀ (s : Shared) (u : Value), BindsTo s fd ⟨[u], []⟩ [("_law_script", u)]) ∧
        ∀ base : Heap, (K w.params).In base → base.Ns mainGlobals mg → LamX.TabB base mg c P → FnOk l.prog w (K w.params) mg base CX0 k fa fd ["_law_script"] (liftSp (K w.params) (spLawT P qs))) :
    PySem.W.WalkO q loose XP YP l.row.toRowW d [] (fun f vs => PySem.call f vs) := by
  refine Att.attach_callB hn hdf fun w s₀ s₁ mg mb fa o pm cd doc a vs ns G Y ho hd hcd hmg hobj hints hlen hbits hg => ?_
  have KX := hY w _ Y
  obtain ⟨fd, c, P, qs, ht, kP, hb, hF⟩ := F w mg fa _ KX G.T.g hmg
  obtain ⟨dr, hdr⟩ := Option.isSome_iff_exists.mp hrec
  obtain ⟨C, hP⟩ := PySem.W.tab_of G.T KX hdr ht
  refine LamX.law_callTs (cs := [(c, P)]) (CX := CX0) (sp := liftSp (K w.params) (spLawT P qs)) KX G.T.g G.T.b G.T.builtins G.T.nolimit hg ?_ ?_ ?_ G.T.bmain hobj hints (Nat.le_trans hlen (by decide)) (Room.mono (k := 200) ⟨rfl, by decide, by decide⟩ hk) ?_ hb (fun H hH hS => ?_) fun H e s' z => z
  · intro p hp; rw [List.mem_singleton] at hp; subst hp; exact hP
  · intro p hp; rw [List.mem_singleton] at hp; subst hp; exact kP
  · intro p hp; rw [List.mem_singleton] at hp; subst hp; exact C
  · intro base h1 h2 h3
    exact hF base h1 h2 (h3 (c, P) (List.mem_singleton.mpr rfl))
  · exact law_spT hlen (hH (c, P) (List.mem_singleton.mpr rfl)) kP hS
end DL

set_option Elab.async false
set_option linter.all false
set_option maxRecDepth 100000
namespace W1
open PySem PySem.Spec PyProof.Rows L2 TL DL
/-! ### words of a row, as lists of signs -/
abbrev letters : List Nat := tl "abcdefghijklmnopqrstuvwxyz"
abbrev figs : List Nat := tl "0123456789"
abbrev ownW : List Str := ["use", "const", "keep", "out", "def", "num", "yes", "no", "let", "if", "else", "while", "end", "give", "say", "do", "or", "and", "not", "mod"]
abbrev signsW : List Str := ["<>", "<=", "(", ")", ",", ".", "=", "<", "+", "-", "*", "/"]
def spanIn (g r : List Nat) : List Nat := r.takeWhile (fun c => decide (c ∈ g))
def wordL (r : List Nat) : Str × List Nat := match r with
  | [] => ("", [])
  | c :: _ => if c ∈ letters then (if ofL (spanIn letters r) ∈ ownW then "own" else if (spanIn letters r).length ≤ 6 then "name" else "", spanIn letters r)
    else if c ∈ figs then (if (spanIn figs r).length ≤ 6 ∧ (spanIn figs r = [48] ∨ c ≠ 48) then "num" else "", spanIn figs r)
    else match signsW.find? (fun s => decide (r.take (tl s).length = tl s)) with
      | some s => ("sign", tl s)
      | none => ("", [c])
theorem spanIn_app {g w t : List Nat} (hw : ∀ c ∈ w, c ∈ g) (ht : ∀ c, t.head? = some c → c ∉ g) : spanIn g (w ++ t) = w := by
  unfold spanIn
  induction w with
  | nil =>
    cases t with
    | nil => rfl
    | cons c t => rw [List.nil_append, List.takeWhile_cons, if_neg (by simpa using ht c rfl)]
  | cons c w ih =>
    rw [List.cons_append, List.takeWhile_cons, if_pos (by simpa using hw c List.mem_cons_self), ih (fun d hd => hw d (List.mem_cons_of_mem _ hd))]
theorem span_step {g l : List Nat} {e : Nat} {c : Nat} (h : l[e]? = some c) : spanIn g (l.drop e) = if c ∈ g then c :: spanIn g (l.drop (e + 1)) else [] := by
  have hl : e < l.length := (List.getElem?_eq_some_iff.mp h).1
  have he : l[e] = c := by
    have := List.getElem?_eq_getElem hl
    rw [this] at h; exact Option.some.inj h
  rw [List.drop_eq_getElem_cons hl, he]
  unfold spanIn
  rw [List.takeWhile_cons]
  by_cases q : c ∈ g <;> simp [q]
theorem span_end {g l : List Nat} {e : Nat} (h : l.length ≤ e) : spanIn g (l.drop e) = [] := by
  rw [List.drop_eq_nil_of_le h]; rfl
/-- the loop's state: from a on all are in g, up to e -/
theorem span_take {g l : List Nat} {a e : Nat} (h1 : a ≤ e) (h2 : e ≤ l.length) (h3 : ∀ c ∈ (l.drop a).take (e - a), c ∈ g) (h4 : ∀ c, l[e]? = some c → c ∉ g) : spanIn g (l.drop a) = (l.drop a).take (e - a) := by
  have e1 : l.drop a = (l.drop a).take (e - a) ++ l.drop e := by
    have := List.take_append_drop (e - a) (l.drop a)
    rw [List.drop_drop, show a + (e - a) = e by omega] at this
    exact this.symm
  conv => lhs; rw [e1]
  refine spanIn_app h3 fun c hc => h4 c ?_
  rw [List.head?_drop] at hc
  exact hc
end W1
namespace W1
open PySem PySem.Spec PyProof.Rows L2 TL DL
theorem span_ne {g r : List Nat} {c : Nat} (h : r.head? = some c) (hc : c ∈ g) : ∃ t, spanIn g r = c :: t := by
  cases r with
  | nil => cases h
  | cons d r =>
    cases h
    unfold spanIn
    exact ⟨_, by rw [List.takeWhile_cons, if_pos (by simpa using hc)]⟩
theorem wordL_let {r : List Nat} {c : Nat} (h : r.head? = some c) (hc : c ∈ letters) : wordL r = ((if ofL (spanIn letters r) ∈ ownW then "own" else if (spanIn letters r).length ≤ 6 then "name" else "", spanIn letters r) : Str × List Nat) := by
  cases r with
  | nil => cases h
  | cons d r => cases h; simp only [wordL, if_pos hc]
theorem wordL_fig {r : List Nat} {c : Nat} (h : r.head? = some c) (hc : c ∉ letters) (hf : c ∈ figs) : wordL r = ((if (spanIn figs r).length ≤ 6 ∧ (spanIn figs r = [48] ∨ c ≠ 48) then "num" else "", spanIn figs r) : Str × List Nat) := by
  cases r with
  | nil => cases h
  | cons d r => cases h; simp only [wordL, if_neg hc, if_pos hf]
theorem wordL_sign {r : List Nat} {c : Nat} {s : Str} (h : r.head? = some c) (hc : c ∉ letters) (hf : c ∉ figs) (hs : signsW.find? (fun s => decide (r.take (tl s).length = tl s)) = some s) : wordL r = (("sign", tl s) : Str × List Nat) := by
  cases r with
  | nil => cases h
  | cons d r => cases h; simp only [wordL, if_neg hc, if_neg hf, hs]
theorem wordL_none {r : List Nat} {c : Nat} (h : r.head? = some c) (hc : c ∉ letters) (hf : c ∉ figs) (hs : signsW.find? (fun s => decide (r.take (tl s).length = tl s)) = none) : wordL r = (("", [c]) : Str × List Nat) := by
  cases r with
  | nil => cases h
  | cons d r => cases h; simp only [wordL, if_neg hc, if_neg hf, hs]
theorem span_len (g r : List Nat) : (spanIn g r).length ≤ r.length := by
  induction r with
  | nil => simp [spanIn]
  | cons c r ih =>
    unfold spanIn at *
    rw [List.takeWhile_cons]
    split
    · simpa using ih
    · simp
theorem wordL_own {r : List Nat} {c : Nat} (h : r.head? = some c) (hc : c ∈ letters) (q : ofL (spanIn letters r) ∈ ownW) : wordL r = (("own", spanIn letters r) : Str × List Nat) := by
  rw [wordL_let h hc, if_pos q]
theorem wordL_name {r : List Nat} {c : Nat} (h : r.head? = some c) (hc : c ∈ letters) (q : ofL (spanIn letters r) ∉ ownW) (q2 : (spanIn letters r).length ≤ 6) : wordL r = (("name", spanIn letters r) : Str × List Nat) := by
  rw [wordL_let h hc, if_neg q, if_pos q2]
theorem wordL_long {r : List Nat} {c : Nat} (h : r.head? = some c) (hc : c ∈ letters) (q : ofL (spanIn letters r) ∉ ownW) (q2 : ¬ (spanIn letters r).length ≤ 6) : wordL r = (("", spanIn letters r) : Str × List Nat) := by
  rw [wordL_let h hc, if_neg q, if_neg q2]
theorem wordL_num {r : List Nat} {c : Nat} (h : r.head? = some c) (hc : c ∉ letters) (hf : c ∈ figs) (q : (spanIn figs r).length ≤ 6) (q2 : spanIn figs r = [48] ∨ c ≠ 48) : wordL r = (("num", spanIn figs r) : Str × List Nat) := by
  rw [wordL_fig h hc hf, if_pos ⟨q, q2⟩]
theorem wordL_nonum {r : List Nat} {c : Nat} (h : r.head? = some c) (hc : c ∉ letters) (hf : c ∈ figs) (q : ¬ ((spanIn figs r).length ≤ 6 ∧ (spanIn figs r = [48] ∨ c ≠ 48))) : wordL r = (("", spanIn figs r) : Str × List Nat) := by
  rw [wordL_fig h hc hf, if_neg q]
/-- a slice of a text against a written sign -/
theorem cut_eq {z x : Str} {a : Nat} : cutS z (some (a : Int)) (some ((a : Int) + ((tl x).length : Int))) = x ↔ ((tl z).drop a).take (tl x).length = tl x := by
  rw [cut_int (Int.natCast_nonneg _) (by omega), str_ext, tl_ofL]
  have e1 : ((a : Int)).toNat = a := rfl
  have e2 : ((a : Int) + ((tl x).length : Int)).toNat - (a : Int).toNat = (tl x).length := by omega
  rw [e2, e1]
def chainQ (r : List Nat) (P : Str → Prop) (N : Prop) : List Str → Prop
  | [] => N
  | s :: ss => (tl s).length ≤ sizeLine ∧ if r.take (tl s).length = tl s then P s else chainQ r P N ss
theorem chain_ok {r : List Nat} {P : Str → Prop} {N : Prop} : ∀ {ss : List Str}, (∀ s ∈ ss, (tl s).length ≤ 10) → (∀ s, ss.find? (fun s => decide (r.take (tl s).length = tl s)) = some s → P s) → (ss.find? (fun s => decide (r.take (tl s).length = tl s)) = none → N) → chainQ r P N ss
  | [], _, _, hn => hn rfl
  | s :: ss, hl, hs, hn => by
    refine ⟨line_of (by have := hl s List.mem_cons_self; omega), ite_c (fun q => hs s (by rw [List.find?_cons_of_pos (by simpa using q)])) (fun q => ?_)⟩
    refine chain_ok (fun s h => hl s (List.mem_cons_of_mem _ h)) (fun s' h => hs s' ?_) (fun h => hn ?_)
    · rw [List.find?_cons_of_neg (by simpa using q)]; exact h
    · rw [List.find?_cons_of_neg (by simpa using q)]; exact h
theorem signs_short : ∀ s ∈ signsW, (tl s).length ≤ 10 := by decide +kernel
end W1
namespace W1
open PySem PySem.Spec PyProof.Rows L2 TL DL
abbrev Wd := Str × List Nat × Nat
inductive Scan : List Nat → Nat → List Wd → Prop
  | nil (e : Nat) : Scan [] e []
  | rem (r : List Nat) (e : Nat) : Scan (35 :: r) e []
  | blank {r : List Nat} {e : Nat} {ws : List Wd} : Scan r (e + 1) ws → Scan (32 :: r) e ws
  | word {c : Nat} {r : List Nat} {e : Nat} {k : Str} {w : List Nat} {ws : List Wd} : c ≠ 35 → c ≠ 32 → wordL (c :: r) = (k, w) → k ≠ "" → Scan ((c :: r).drop w.length) (e + w.length) ws → Scan (c :: r) e ((k, w, e) :: ws)
def encW (n : Int) : Wd → DV := fun x => .tup [.str x.1, .str (ofL x.2.1), .tup [.int n, .int ((x.2.2 : Int) + 1)]]
theorem find_pre {r : List Nat} {s : Str} (h : signsW.find? (fun s => decide (r.take (tl s).length = tl s)) = some s) : s ∈ signsW ∧ r.take (tl s).length = tl s :=
  ⟨List.mem_of_find?_eq_some h, by simpa using List.find?_some h⟩
theorem signs_ne : ∀ s ∈ signsW, 1 ≤ (tl s).length := by decide +kernel
theorem wordL_bounds {c : Nat} {r : List Nat} : 1 ≤ (wordL (c :: r)).2.length ∧ (wordL (c :: r)).2.length ≤ (c :: r).length := by
  by_cases hc : c ∈ letters
  · rw [wordL_let rfl hc]
    obtain ⟨t, et⟩ := span_ne (g := letters) (r := c :: r) rfl hc
    exact ⟨by show 1 ≤ (spanIn letters (c :: r)).length; rw [et]; simp, span_len _ _⟩
  · by_cases hf : c ∈ figs
    · rw [wordL_fig rfl hc hf]
      obtain ⟨t, et⟩ := span_ne (g := figs) (r := c :: r) rfl hf
      exact ⟨by show 1 ≤ (spanIn figs (c :: r)).length; rw [et]; simp, span_len _ _⟩
    · cases hs : signsW.find? (fun s => decide ((c :: r).take (tl s).length = tl s)) with
      | none => rw [wordL_none rfl hc hf hs]; simp
      | some s =>
        rw [wordL_sign rfl hc hf hs]
        obtain ⟨h1, h2⟩ := find_pre hs
        refine ⟨signs_ne s h1, ?_⟩
        have := congrArg List.length h2
        rw [List.length_take] at this
        show (tl s).length ≤ _
        omega
end W1
namespace W1
open PySem PySem.Spec PyProof.Rows L2 TL DL
theorem one_hash {c : Nat} : ((⟨#[c]⟩ : Str) = Str.ofString "#") ↔ c = 35 := ⟨fun h => by have := congrArg tl h; exact (List.cons.inj this).1, fun h => by subst h; decide +kernel⟩
theorem one_blank {c : Nat} : ((⟨#[c]⟩ : Str) = Str.ofString " ") ↔ c = 32 := ⟨fun h => by have := congrArg tl h; exact (List.cons.inj this).1, fun h => by subst h; decide +kernel⟩
theorem scan_cons {c : Nat} {r : List Nat} {e : Nat} {ws : List Wd} (h : Scan (c :: r) e ws) (h1 : c ≠ 35) (h2 : c ≠ 32) : ∃ k w ws', wordL (c :: r) = (k, w) ∧ k ≠ "" ∧ ws = (k, w, e) :: ws' ∧ Scan ((c :: r).drop w.length) (e + w.length) ws' := by
  cases h with
  | rem => exact absurd rfl h1
  | blank => exact absurd rfl h2
  | word _ _ h3 h4 h5 => exact ⟨_, _, _, h3, h4, rfl, h5⟩
theorem scan_hash {r : List Nat} {e : Nat} {ws : List Wd} (h : Scan (35 :: r) e ws) : ws = [] := by
  cases h with
  | rem => rfl
  | word h => exact absurd rfl h
theorem scan_blank {r : List Nat} {e : Nat} {ws : List Wd} (h : Scan (32 :: r) e ws) : Scan r (e + 1) ws := by
  cases h with
  | blank h => exact h
  | word _ h => exact absurd rfl h
theorem scan_nil {e : Nat} {ws : List Wd} (h : Scan [] e ws) : ws = [] := by cases h; rfl
end W1
namespace W1
open PySem PySem.Spec PyProof.Rows L2 TL DL
/-- the rows of a text, each with its words -/
def ScanRows : List Str → List (List Wd) → Prop
  | [], [] => True
  | r :: rs, ws :: wss => Scan (tl r) 0 ws ∧ ScanRows rs wss
  | _, _ => False
def encRows : Nat → List (List Wd) → List DV
  | _, [] => []
  | n, ws :: wss => .lst (ws.map (encW ((n : Int) + 1))) :: encRows (n + 1) wss
def encAll : Nat → List (List Wd) → List DV
  | _, [] => []
  | n, ws :: wss => ws.map (encW ((n : Int) + 1)) ++ encAll (n + 1) wss
theorem encRows_get : ∀ {wss : List (List Wd)} {n i : Nat} {y : DV}, (encRows n wss)[i]? = some y → ∃ ws, wss[i]? = some ws ∧ y = .lst (ws.map (encW ((n : Int) + (i : Int) + 1)))
  | [], _, _, _, h => by simp [encRows] at h
  | ws :: wss, n, 0, y, h => by
    simp [encRows] at h
    exact ⟨ws, rfl, by rw [← h]; simp⟩
  | ws :: wss, n, i + 1, y, h => by
    simp only [encRows, List.getElem?_cons_succ] at h
    obtain ⟨ws', h1, h2⟩ := encRows_get h
    refine ⟨ws', by simpa using h1, ?_⟩
    rw [h2]
    have : ((n + 1 : Nat) : Int) + (i : Int) + 1 = (n : Int) + ((i + 1 : Nat) : Int) + 1 := by omega
    rw [this]
theorem encRows_len : ∀ {wss : List (List Wd)} {n : Nat}, (encRows n wss).length = wss.length
  | [], _ => rfl
  | _ :: wss, n => by simp [encRows, encRows_len (wss := wss)]
theorem scanRows_len : ∀ {rs : List Str} {wss : List (List Wd)}, ScanRows rs wss → rs.length = wss.length
  | [], [], _ => rfl
  | _ :: rs, _ :: wss, h => by simp [scanRows_len h.2]
  | [], _ :: _, h => h.elim
  | _ :: _, [], h => h.elim
theorem scanRows_get : ∀ {rs : List Str} {wss : List (List Wd)} {i : Nat} {r : Str} {ws : List Wd}, ScanRows rs wss → rs[i]? = some r → wss[i]? = some ws → Scan (tl r) 0 ws
  | r :: rs, ws :: wss, 0, _, _, h, h1, h2 => by simp at h1 h2; subst h1; subst h2; exact h.1
  | r :: rs, ws :: wss, i + 1, _, _, h, h1, h2 => scanRows_get h.2 (by simpa using h1) (by simpa using h2)
  | [], [], _, _, _, _, h1, _ => by simp at h1
  | [], _ :: _, _, _, _, h, _, _ => h.elim
  | _ :: _, [], _, _, _, h, _, _ => h.elim
theorem scan_len {r : List Nat} {e : Nat} {ws : List Wd} (h : Scan r e ws) : ws.length ≤ r.length := by
  induction h with
  | nil => simp
  | rem => simp
  | blank _ ih => simp; omega
  | @word c r e k w ws h1 h2 h3 h4 h5 ih =>
    have hb := wordL_bounds (c := c) (r := r)
    rw [h3] at hb
    dsimp only at hb
    rw [List.length_drop] at ih
    simp only [List.length_cons] at *
    omega
end W1

set_option Elab.async false
set_option linter.all false
set_option maxRecDepth 100000
/-! LawMath: what the laws' own drawing has in common. -/
namespace W1
open PySem PySem.Spec PyProof.Rows L2 TL DL
/-- the dice: a list of the script, a place, what is mixed, what is left -/
def Dice (c : Cell) : Prop := ∃ (ns : List Int) (p m k : Int), c = .lst [.slst (ns.map DV.int), .int p, .int m, .int k] ∧ 0 ≤ p ∧ 0 ≤ m ∧ m < 2147483647 ∧ 0 ≤ k ∧ ns.length ≤ 63
/-- data of a depth -/
inductive Pure : Nat → DV → Prop
  | non {n} : Pure n .non
  | bl {n} (b) : Pure n (.bl b)
  | int {n} (i) : Pure n (.int i)
  | str {n} (x) : Pure n (.str x)
  | tup {n} {xs : List DV} : (∀ x ∈ xs, Pure n x) → xs.length ≤ 1000000 → Pure (n + 1) (.tup xs)
  | lst {n} {xs : List DV} : (∀ x ∈ xs, Pure n x) → xs.length ≤ 1000000 → Pure (n + 1) (.lst xs)
/-- what stands there to be read -/
def Sees (O : Own) (d v : DV) : Prop := d = v ∨ ∃ a xs, d = .ref a ∧ O a = some (.lst xs) ∧ v = .lst xs
end W1
namespace W1
open PySem PySem.Spec PyProof.Rows L2 TL DL
theorem mem_tuple : ("tuple" ∈ ["int", "str", "bool", "list", "tuple", "dict"]) = True := by decide
theorem mem_list : ("list" ∈ ["int", "str", "bool", "list", "tuple", "dict"]) = True := by decide
theorem mem_int : ("int" ∈ ["int", "str", "bool", "list", "tuple", "dict"]) = True := by decide
theorem mem_bool : ("bool" ∈ ["int", "str", "bool", "list", "tuple", "dict"]) = True := by decide
theorem mem_str : ("str" ∈ ["int", "str", "bool", "list", "tuple", "dict"]) = True := by decide
theorem dIsi_to {O : Own} {d : DV} {b a : String} {Q : DVK} (h : tyName O d = some a) (hb : b ∈ ["int", "str", "bool", "list", "tuple", "dict"]) (hq : Q (.bl (subTy a b)) O) : dIsi [d, .ty b] O Q := by
  unfold dIsi
  exact onSome_of h ⟨hb, hq⟩
theorem seq_len {O : Own} {d : DV} {xs : List DV} {Q : DVK} (h : seqOf O d = some xs) (hq : Q (.int xs.length) O) : dLen [d] O Q := by
  unfold seqOf at h
  split at h <;> try (cases h; first | done | exact hq)
  rename_i a
  show onL (O a) _
  cases e : O a with
  | none => rw [e] at h; cases h
  | some c =>
    rw [e] at h
    cases c with
    | lst ys => cases h; exact hq
    | _ => cases h
theorem seq_q {O : Own} {d : DV} {xs : List DV} {K : List DV → Prop} (h : seqOf O d = some xs) (hq : K xs) : seqQ O d K := by
  unfold seqOf at h
  split at h <;> try (cases h; first | done | exact hq)
  rename_i a
  show onL (O a) _
  cases e : O a with
  | none => rw [e] at h; cases h
  | some c =>
    rw [e] at h
    cases c with
    | lst ys => cases h; exact hq
    | _ => cases h
theorem seq_ix {O : Own} {d x : DV} {xs : List DV} {i : Int} {Q : DVK} (h : seqOf O d = some xs) (hx : atI xs i = some x) (hq : Q x O) : dIx d (.int i) O Q := by
  have k : seqQ O d fun xs => onSome (atI xs i) fun d => Q d O := seq_q h (onSome_of hx hq)
  unfold seqOf at h
  split at h <;> first | (cases h; done) | exact k
theorem lcW_skip {ow : Bool} {b : DV → DSt → Option DSt} {tt : DTT} {te : DTE} {S : DSt} {Q : DVK} {O : Own} : ∀ (xs acc : List DV),
    (∀ x ∈ xs, ∀ K : Bool → Own → Prop, K false O → onSome (b x S) fun S2 => tt S2 O K) → endLc ow Q acc O → lcW ow b tt te S Q xs acc O
  | [], acc, _, h => h
  | x :: xs, acc, hs, h => by
    unfold lcW
    have h0 := hs x List.mem_cons_self
    obtain ⟨S2, e, _⟩ := onSome_ex (h0 (fun _ _ => True) trivial)
    have h1 := fun K hK => onSome_ex (h0 K hK)
    refine onSome_of e ?_
    have h2 : ∀ K : Bool → Own → Prop, K false O → tt S2 O K := fun K hK => by
      obtain ⟨S3, e3, h3⟩ := h1 K hK
      rw [e] at e3; cases e3; exact h3
    exact h2 _ (ite_f (by decide) (lcW_skip xs acc (fun x hx => hs x (List.mem_cons_of_mem _ hx)) h))
end W1
namespace W1
open PySem PySem.Spec PyProof.Rows L2 TL DL
theorem Sees.seq {O : Own} {d : DV} {xs : List DV} : (Sees O d (.lst xs) → seqOf O d = some xs ∧ tyName O d = some "list") ∧ (Sees O d (.tup xs) → seqOf O d = some xs ∧ tyName O d = some "tuple") := by
  refine ⟨?_, ?_⟩
  · rintro (rfl | ⟨a, ys, rfl, h, e⟩)
    · exact ⟨rfl, rfl⟩
    · cases e
      refine ⟨?_, ?_⟩
      · show (match O a with | some (.lst xs) => some xs | _ => none) = _
        rw [h]
      · show (match O a with | some (.lst _) => some "list" | some (.dK _) => some "dict" | some (.dT _) => some "dict" | _ => none) = _
        rw [h]
  · rintro (rfl | ⟨a, ys, rfl, h, e⟩)
    · exact ⟨rfl, rfl⟩
    · cases e
theorem Sees.flat {O : Own} {d v : DV} (h : Sees O d v) (hv : ∀ xs, v ≠ .lst xs) : d = v := by
  rcases h with h | ⟨a, ys, rfl, h, e⟩
  · exact h
  · exact absurd e (hv _)
/-- the comprehension of _law_like over what is alike -/
theorem like_all {b : DV → DSt → Option DSt} {tt : DTT} {S : DSt} {Q : DVK} {O : Own} {te : DTE} {m : Nat}
    (h : ∀ k : Nat, k < m → ∀ K : Bool → Own → Prop, K false O → onSome (b (.int k) S) fun S2 => tt S2 O K) (hq : Q (.lst []) O) :
    lcW false b tt te S Q ((List.range m).map fun k : Nat => DV.int k) [] O := by
  refine lcW_skip _ _ (fun x hx K hK => ?_) hq
  obtain ⟨k, hk, rfl⟩ := List.mem_map.mp hx
  exact h k (List.mem_range.mp hk) K hK
end W1
namespace W1
open PySem PySem.Spec PyProof.Rows L2 TL DL
/-- a drawn name -/
def IsName (w : Str) : Prop := ∃ (c : Nat) (l : List Nat), tl w = c :: l ∧ c ∈ tl (Str.ofString "bfhjpqrtvxz") ∧ (∀ x ∈ l, x ∈ tl (Str.ofString "abdefilmnostuwy")) ∧ l.length ≤ 2
def WK (rl : Addr) (row last : Str) : List (Key × DV) := [(.inr "rows", .ref rl), (.inr "row", .str row), (.inr "last", .str last)]
def WCell (rl : Addr) (row last : Str) : Cell := .dK (WK rl row last)
theorem wk_rows {rl : Addr} {row last : Str} : dget (WK rl row last) (.inr "rows") = some (.ref rl) := rfl
theorem wk_row {rl : Addr} {row last : Str} : dget (WK rl row last) (.inr "row") = some (.str row) := rfl
theorem wk_last {rl : Addr} {row last : Str} : dget (WK rl row last) (.inr "last") = some (.str last) := rfl
theorem wk_upd {rl : Addr} {row last a b : Str} : dmerge (WK rl row last) (dmerge [] [(.inr "row", .str a), (.inr "last", .str b)]) = WK rl a b := rfl
theorem wk_len {rl : Addr} {row last : Str} : (WK rl row last).length = 3 := rfl
theorem wk_len2 {a b : DV} : (dmerge [] [(.inr "row", a), (.inr "last", b)] : List (Key × DV)).length = 2 := rfl
theorem dEqP_nil0 {O : Own} {Q : DVK} : dEqP true (.lst []) (.lst []) O Q = Q (.bl false) O := by simp only [dEqP, toPy, toPys, onSome_e1]; exact propext ⟨fun h => h.2.2, fun h => ⟨rfl, rfl, h⟩⟩
theorem dEqP_nil1 {O : Own} {Q : DVK} {i : Int} : dEqP true (.lst [.int i]) (.lst []) O Q = Q (.bl true) O := by simp only [dEqP, toPy, toPys, onSome_e1]; exact propext ⟨fun h => h.2.2, fun h => ⟨rfl, rfl, h⟩⟩
theorem dEqP_nil2 {O : Own} {Q : DVK} {i j : Int} : dEqP true (.lst [.int i, .int j]) (.lst []) O Q = Q (.bl true) O := by simp only [dEqP, toPy, toPys, onSome_e1]; exact propext ⟨fun h => h.2.2, fun h => ⟨rfl, rfl, h⟩⟩
theorem len_lt16 {α : Type} {l : List α} (h : l.length ≤ 100) : l.length < 16000000 := by omega
theorem dSeq_mid {t u : DTS} {D : DEnds} {S : DSt} {O : Own} (Mid : DSt → Own → Prop) (h1 : ∀ R : DSt → Own → Prop, (∀ S' O', Mid S' O' → R S' O') → t { D with nx := R } S O) (h2 : ∀ S' O', Mid S' O' → u D S' O') : dSeq t u D S O := h1 _ h2
theorem dSeq_mid2 {t t2 u : DTS} {D : DEnds} {S : DSt} {O : Own} (Mid : DSt → Own → Prop) (h1 : ∀ R : DSt → Own → Prop, (∀ S' O', Mid S' O' → R S' O') → dSeq t t2 { D with nx := R } S O) (h2 : ∀ S' O', Mid S' O' → u D S' O') : dSeq t (dSeq t2 u) D S O := h1 _ h2
theorem dSeq_mid3 {t t2 t3 u : DTS} {D : DEnds} {S : DSt} {O : Own} (Mid : DSt → Own → Prop) (h1 : ∀ R : DSt → Own → Prop, (∀ S' O', Mid S' O' → R S' O') → dSeq t (dSeq t2 t3) { D with nx := R } S O) (h2 : ∀ S' O', Mid S' O' → u D S' O') : dSeq t (dSeq t2 (dSeq t3 u)) D S O := h1 _ h2
abbrev lets : List Nat := tl (Str.ofString "abcdefghijklmnopqrstuvwxyz")
abbrev nums : List Nat := tl (Str.ofString "0123456789")
def Glues (last word : Str) : Prop := ∃ x y, (tl last).getLast? = some x ∧ (tl word).head? = some y ∧ ((x ∈ lets ∧ y ∈ lets) ∨ (x ∈ nums ∧ y ∈ nums) ∨ (last = "<" ∧ y ∈ tl (Str.ofString "=>")))
/-- what stands behind a row's words -/
def Tail (t : Str) : Prop := t = "" ∨ t = " " ∨ t = "  # if x"
/-- a row without words -/
def Spare (t : Str) : Prop := t = "" ∨ t = "   " ∨ t = "# end"
end W1
namespace W1
open PySem PySem.Spec PyProof.Rows L2 TL DL
theorem flat_one (g : Nat) (x : Nat) : (List.replicate g [x]).flatten = List.replicate g x := by
  induction g with
  | zero => rfl
  | succ g ih => rw [List.replicate_succ, List.flatten_cons, ih]; rfl
theorem repS_sp (g : Int) : repS " " g = ofL (List.replicate g.toNat 32) := by
  unfold repS
  rw [show tl (Str.ofString " ") = [32] from rfl, flat_one]
end W1
namespace W1
open PySem PySem.Spec PyProof.Rows L2 TL DL
theorem lcW_by {ow : Bool} {b : DV → DSt → Option DSt} {te : DTE} {S : DSt} {Q : DVK} (I : List DV → Own → Prop) : ∀ (xs acc : List DV) (O : Own), I acc O → acc.length + xs.length < 16000000 →
    (∀ x ∈ xs, ∀ (acc : List DV) (O : Own) (K : DVK), I acc O → (∀ y O', I (acc ++ [y]) O' → K y O') → onSome (b x S) fun S2 => te S2 O K) →
    (∀ acc' O, I acc' O → acc'.length = acc.length + xs.length → endLc ow Q acc' O) → lcW ow b dYes te S Q xs acc O
  | [], acc, O, h, _, _, k => k acc O h rfl
  | x :: xs, acc, O, h, hl, hs, k => by
    unfold lcW
    rw [List.length_cons] at hl
    have h1 := hs x List.mem_cons_self acc O (fun y O3 => acc.length < 16000000 ∧ lcW ow b dYes te S Q xs (acc ++ [y]) O3) h (fun y O' h' => ⟨by omega, lcW_by I xs (acc ++ [y]) O' h' (by rw [List.length_append]; simp; omega) (fun x hx => hs x (List.mem_cons_of_mem _ hx)) (fun acc' O h2 h3 => k acc' O h2 (by rw [h3, List.length_append, List.length_cons]; simp; omega))⟩)
    obtain ⟨S2, e, h2⟩ := onSome_ex h1
    exact onSome_of e h2
end W1
namespace W1
open PySem PySem.Spec PyProof.Rows L2 TL DL
theorem strsOf_map {α : Type} (f : α → Str) : ∀ l : List α, strsOf (l.map fun x => DV.str (f x)) = some (l.map f)
  | [] => rfl
  | x :: l => by
    have := strsOf_map f l
    simp only [List.map_cons, strsOf, this]
theorem joinL_nil : ∀ ps : List (List Nat), TL.joinL [] ps = ps.flatten
  | [] => rfl
  | [p] => by simp [TL.joinL]
  | p :: q :: r => by
    have := joinL_nil (q :: r)
    simp only [TL.joinL, List.flatten_cons] at this ⊢
    simp [this]
theorem join_chars (l : List Nat) : Txt.join "" (l.map fun x => (⟨#[x]⟩ : Str)) = ofL l := by
  rw [TL.join_eq]
  apply ext_tl
  rw [TL.tl_join, List.map_map, show tl (Str.ofString "") = [] from rfl, joinL_nil, tl_ofL]
  induction l with
  | nil => rfl
  | cons x l ih => rw [List.map_cons, List.flatten_cons, ih]; rfl
theorem sum_ones (l : List Nat) : ((l.map fun x => (⟨#[x]⟩ : Str)).map (fun x => (tl x).length)).sum = l.length := by
  induction l with
  | nil => rfl
  | cons x l ih => rw [List.map_cons, List.map_cons, List.sum_cons, ih, List.length_cons]; exact Nat.add_comm 1 _
end W1

set_option Elab.async false
set_option linter.all false
set_option maxRecDepth 100000
namespace W1
open PySem PySem.Spec PyProof.Rows L2 TL DL
/-! ### a row that grows word by word -/
/-- what follows does not stick to the last word -/
def NG (last t : List Nat) : Prop := ∀ x y, last.getLast? = some x → t.head? = some y → ¬ ((x ∈ letters ∧ y ∈ letters) ∨ (x ∈ figs ∧ y ∈ figs) ∨ (last = [60] ∧ (y = 61 ∨ y = 62)))
def Ext (row : List Nat) (ws : List Wd) (last : List Nat) : Prop := ∀ t ws', NG last t → Scan t row.length ws' → Scan (row ++ t) 0 (ws ++ ws')
def WordOk (k : Str) (w : List Nat) : Prop := k ≠ "" ∧ (∃ c r, w = c :: r ∧ c ≠ 35 ∧ c ≠ 32) ∧ w.length ≤ 6 ∧ 10 ∉ w ∧ ∀ t, NG w t → wordL (w ++ t) = (k, w)
theorem scan_blanks {t : List Nat} {ws : List Wd} : ∀ (g e : Nat), Scan t (e + g) ws → Scan (List.replicate g 32 ++ t) e ws
  | 0, e, h => h
  | g + 1, e, h => .blank (scan_blanks g (e + 1) (by rw [show e + 1 + g = e + (g + 1) by omega]; exact h))
theorem ext0 : Ext [] [] [] := fun t ws' _ h => h
theorem ext_word {row : List Nat} {ws : List Wd} {last : List Nat} {k : Str} {w : List Nat} {g : Nat} (h : Ext row ws last) (hw : WordOk k w) (hg : g = 0 → NG last w) :
    Ext (row ++ List.replicate g 32 ++ w) (ws ++ [(k, w, row.length + g)]) w := by
  intro t ws' ht hs
  obtain ⟨hk, ⟨c, r, rfl, h1, h2⟩, _, _, hw'⟩ := hw
  have e := hw' t ht
  have s1 : Scan ((c :: r) ++ t) (row.length + g) ((k, c :: r, row.length + g) :: ws') := by
    refine Scan.word h1 h2 e hk ?_
    show Scan (((c :: r) ++ t).drop (c :: r).length) _ _
    rw [List.drop_left]
    rw [List.length_append, List.length_append, List.length_replicate] at hs
    exact hs
  have s2 := scan_blanks g row.length s1
  have := h (List.replicate g 32 ++ ((c :: r) ++ t)) _ ?_ s2
  · rw [List.append_assoc, List.append_assoc, List.append_assoc]; exact this
  · intro x y hx hy
    cases g with
    | zero =>
      have := hg rfl x c hx rfl
      cases hy; exact this
    | succ g =>
      cases hy
      rintro (⟨_, h⟩ | ⟨_, h⟩ | ⟨_, h | h⟩)
      · revert h; decide
      · revert h; decide
      · cases h
      · cases h
theorem ext_end {row t : List Nat} {ws : List Wd} {last : List Nat} (h : Ext row ws last) (ht : t = [] ∨ ∃ r, t = 32 :: r) (hs : ∀ e, Scan t e []) : Scan (row ++ t) 0 ws := by
  have := h t [] ?_ (hs _)
  · rw [List.append_nil] at this; exact this
  · intro x y hx hy
    rcases ht with rfl | ⟨r, rfl⟩
    · cases hy
    · cases hy
      rintro (⟨_, h⟩ | ⟨_, h⟩ | ⟨_, h | h⟩)
      · revert h; decide
      · revert h; decide
      · cases h
      · cases h
theorem span_all {g w t : List Nat} (hw : ∀ c ∈ w, c ∈ g) (hn : ∀ x y, w.getLast? = some x → t.head? = some y → x ∈ g → y ∉ g) (hne : w ≠ []) : spanIn g (w ++ t) = w := by
  refine spanIn_app hw fun c hc => ?_
  have e : w.getLast? = some (w.getLast hne) := List.getLast?_eq_some_getLast hne
  exact hn _ c e hc (hw _ (List.getLast_mem hne))
theorem name_ok {w : Str} (h : IsName w) : WordOk "name" (tl w) := by
  obtain ⟨c, l, e, hc, hl, hn⟩ := h
  have all : ∀ x ∈ tl w, x ∈ letters := by
    rw [e]
    intro x hx
    have k1 : ∀ x ∈ tl (Str.ofString "bfhjpqrtvxz"), x ∈ letters := by decide +kernel
    have k2 : ∀ x ∈ tl (Str.ofString "abdefilmnostuwy"), x ∈ letters := by decide +kernel
    rcases List.mem_cons.mp hx with rfl | hx
    · exact k1 _ hc
    · exact k2 _ (hl _ hx)
  have hcl : c ∈ letters := all c (by rw [e]; exact List.mem_cons_self)
  refine ⟨by decide, ⟨c, l, e, ?_, ?_⟩, by rw [e]; simp; omega, ?_, fun t ht => ?_⟩
  · rintro rfl; revert hcl; decide
  · rintro rfl; revert hcl; decide
  · intro h; have := all _ h; revert this; decide
  · have hs : spanIn letters (tl w ++ t) = tl w := span_all all (fun x y hx hy h1 h2 => ht x y hx hy (.inl ⟨h1, h2⟩)) (by rw [e]; simp)
    have hh : (tl w ++ t).head? = some c := by rw [e]; rfl
    have := wordL_name hh hcl (by
      rw [hs, ofL_tl]
      intro hm
      have k3 : ∀ s ∈ ownW, ∀ d ∈ (tl s).head?, d ∉ tl (Str.ofString "bfhjpqrtvxz") := by decide +kernel
      exact k3 w hm c (by rw [e]; rfl) hc) (by rw [hs, e]; simp; omega)
    rw [this, hs]
theorem own_ok {w : Str} (h : w ∈ ownW) : WordOk "own" (tl w) := by
  have k : ∀ s ∈ ownW, (∀ x ∈ tl s, x ∈ letters) ∧ tl s ≠ [] ∧ (tl s).length ≤ 6 := by decide +kernel
  obtain ⟨all, hne, hl⟩ := k w h
  obtain ⟨c, l, e⟩ := List.exists_cons_of_ne_nil hne
  have hcl : c ∈ letters := all c (by rw [e]; exact List.mem_cons_self)
  refine ⟨by decide, ⟨c, l, e, ?_, ?_⟩, hl, ?_, fun t ht => ?_⟩
  · rintro rfl; revert hcl; decide
  · rintro rfl; revert hcl; decide
  · intro h; have := all _ h; revert this; decide
  · have hs : spanIn letters (tl w ++ t) = tl w := span_all all (fun x y hx hy h1 h2 => ht x y hx hy (.inl ⟨h1, h2⟩)) hne
    have hh : (tl w ++ t).head? = some c := by rw [e]; rfl
    have := wordL_own hh hcl (by rw [hs, ofL_tl]; exact h)
    rw [this, hs]
def IsNum (w : List Nat) : Prop := w ≠ [] ∧ (∀ x ∈ w, x ∈ figs) ∧ w.length ≤ 6 ∧ (w = [48] ∨ w.head? ≠ some 48)
theorem num_ok {w : List Nat} (h : IsNum w) : WordOk "num" w := by
  obtain ⟨hne, all, hl, h0⟩ := h
  obtain ⟨c, l, e⟩ := List.exists_cons_of_ne_nil hne
  have hcf : c ∈ figs := all c (by rw [e]; exact List.mem_cons_self)
  have hcl : c ∉ letters := by
    have k : ∀ x ∈ figs, x ∉ letters := by decide +kernel
    exact k c hcf
  refine ⟨by decide, ⟨c, l, e, ?_, ?_⟩, hl, ?_, fun t ht => ?_⟩
  · rintro rfl; revert hcf; decide
  · rintro rfl; revert hcf; decide
  · intro h; have := all _ h; revert this; decide
  · have hs : spanIn figs (w ++ t) = w := span_all all (fun x y hx hy h1 h2 => ht x y hx hy (.inr (.inl ⟨h1, h2⟩))) hne
    have hh : (w ++ t).head? = some c := by rw [e]; rfl
    have := wordL_num hh hcl hcf (by rw [hs]; exact hl) (by
      rw [hs]
      rcases h0 with h0 | h0
      · exact .inl h0
      · exact .inr (by rintro rfl; exact h0 (by rw [e]; rfl)))
    rw [this, hs]
theorem sign_ok {w : Str} (h : w ∈ signsW) : WordOk "sign" (tl w) := by
  have k : ∀ s ∈ signsW, (∀ x ∈ tl s, x ∉ letters ∧ x ∉ figs ∧ x ≠ 35 ∧ x ≠ 32 ∧ x ≠ 10) ∧ tl s ≠ [] ∧ (tl s).length ≤ 6 := by decide +kernel
  obtain ⟨all, hne, hl⟩ := k w h
  obtain ⟨c, l, e⟩ := List.exists_cons_of_ne_nil hne
  have hc := all c (by rw [e]; exact List.mem_cons_self)
  refine ⟨by decide, ⟨c, l, e, hc.2.2.1, hc.2.2.2.1⟩, hl, fun q => (all _ q).2.2.2.2 rfl, fun t ht => ?_⟩
  have hh : (tl w ++ t).head? = some c := by rw [e]; rfl
  refine wordL_sign hh hc.1 hc.2.1 ?_
  clear hh hc e hl hne all k
  simp only [signsW, List.mem_cons, List.not_mem_nil, or_false] at h
  rcases h with rfl | rfl | rfl | rfl | rfl | rfl | rfl | rfl | rfl | rfl | rfl | rfl
  all_goals first
    | rfl
    | skip
  cases t with
  | nil => rfl
  | cons y t =>
    have hn := ht 60 y rfl rfl
    have n1 : y ≠ 61 := fun e => hn (.inr (.inr ⟨rfl, .inl e⟩))
    have n2 : y ≠ 62 := fun e => hn (.inr (.inr ⟨rfl, .inr e⟩))
    have f1 : ∀ s : Str, s = "<>" ∨ s = "<=" → ¬ ((tl (Str.ofString "<") ++ y :: t).take (tl s).length = tl s) := by
      rintro s (rfl | rfl) h
      · have h : [60, y] = [60, 62] := h
        exact n2 (by simpa using h)
      · have h : [60, y] = [60, 61] := h
        exact n1 (by simpa using h)
    unfold signsW
    rw [List.find?_cons_of_neg (by simpa using f1 _ (.inl rfl)), List.find?_cons_of_neg (by simpa using f1 _ (.inr rfl))]
    rfl
end W1
namespace W1
open PySem PySem.Spec PyProof.Rows L2 TL DL
theorem dig_facts (n : Nat) : (∀ c ∈ Nat.toDigits 10 n, c.toNat ∈ figs) ∧ Nat.toDigits 10 n ≠ [] ∧ (n ≠ 0 → (Nat.toDigits 10 n).head? ≠ some '0') ∧ ∀ k, n < 10 ^ (k + 1) → (Nat.toDigits 10 n).length ≤ k + 1 := by
  have dc : ∀ d, d < 10 → (Nat.digitChar d).toNat ∈ figs := by decide +kernel
  have d0 : ∀ d, d < 10 → d ≠ 0 → Nat.digitChar d ≠ '0' := by decide +kernel
  induction n using Nat.strongRecOn with
  | _ n ih =>
    by_cases h : n < 10
    · rw [Nat.toDigits_of_lt_base h]
      refine ⟨fun c hc => by simp at hc; subst hc; exact dc n h, by simp, fun h0 e => d0 n h h0 (by simpa using e), fun k _ => by simp⟩
    · have h' : 10 ≤ n := by omega
      obtain ⟨a1, a2, a3, a4⟩ := ih (n / 10) (by omega)
      rw [Nat.toDigits_of_base_le (by decide) h']
      refine ⟨fun c hc => ?_, by simp, fun _ e => ?_, fun k hk => ?_⟩
      · rcases List.mem_append.mp hc with hc | hc
        · exact a1 c hc
        · simp at hc; subst hc; exact dc _ (Nat.mod_lt _ (by decide))
      · refine a3 (by omega) ?_
        cases ed : Nat.toDigits 10 (n / 10) with
        | nil => exact absurd ed a2
        | cons c l => rw [ed] at e; exact e
      · cases k with
        | zero => simp at hk; omega
        | succ k =>
          have := a4 k (by rw [Nat.pow_succ] at hk; omega)
          rw [List.length_append]; simp; omega
theorem tl_digits (n : Nat) : tl (Str.ofString (toString (n : Int))) = (Nat.toDigits 10 n).map Char.toNat := by
  have e : toString (n : Int) = String.ofList (Nat.toDigits 10 n) := rfl
  rw [e, Str.ofString_eq_toList]
  simp [tl]
theorem isnum_of (r : Int) (h0 : 0 ≤ r) (h1 : r < 1000000) : IsNum (tl (Str.ofString (toString r))) := by
  obtain ⟨n, rfl⟩ : ∃ n : Nat, r = n := ⟨r.toNat, by omega⟩
  rw [tl_digits]
  obtain ⟨a1, a2, a3, a4⟩ := dig_facts n
  refine ⟨by simpa using a2, fun x hx => ?_, ?_, ?_⟩
  · obtain ⟨c, hc, rfl⟩ := List.mem_map.mp hx
    exact a1 c hc
  · rw [List.length_map]
    exact a4 5 (by show n < 10 ^ 6; omega)
  · by_cases hn : n = 0
    · subst hn; exact .inl rfl
    · refine .inr fun e => a3 hn ?_
      cases ed : Nat.toDigits 10 n with
      | nil => exact absurd ed a2
      | cons c l =>
        rw [ed] at e
        have e : c.toNat = 48 := by simpa using e
        have : c = '0' := Char.toNat_inj.mp e
        rw [this]; rfl
theorem log2_of (r : Int) (h0 : 0 ≤ r) (h1 : r < 1000000) : r.natAbs.log2 < 1920 := by
  by_cases h : r.natAbs = 0
  · rw [h]; decide
  · have : r.natAbs < 2 ^ 20 := by have : (2:Nat) ^ 20 = 1048576 := by decide
                                   omega
    have := (Nat.log2_lt h).mpr this
    omega
end W1
namespace W1
open PySem PySem.Spec PyProof.Rows L2 TL DL
/-! ### the rows together -/
theorem scanRows_app : ∀ {rs rs2 : List Str} {wss wss2 : List (List Wd)}, ScanRows rs wss → ScanRows rs2 wss2 → ScanRows (rs ++ rs2) (wss ++ wss2)
  | [], _, [], _, _, h2 => h2
  | r :: rs, _, ws :: wss, _, h, h2 => ⟨h.1, scanRows_app h.2 h2⟩
  | [], _, _ :: _, _, h, _ => h.elim
  | _ :: _, _, [], _, h, _ => h.elim
theorem encAll_app : ∀ {wss wss2 : List (List Wd)} {n : Nat}, encAll n (wss ++ wss2) = encAll n wss ++ encAll (n + wss.length) wss2
  | [], _, _ => rfl
  | ws :: wss, wss2, n => by
    simp only [List.cons_append, encAll, List.length_cons]
    rw [encAll_app, List.append_assoc, show n + 1 + wss.length = n + (wss.length + 1) by omega]
theorem encAll_empty : ∀ {wss : List (List Wd)} {n : Nat}, (∀ ws ∈ wss, ws = []) → encAll n wss = []
  | [], _, _ => rfl
  | ws :: wss, n, h => by
    have := h ws List.mem_cons_self
    subst this
    simp only [encAll, List.map_nil, List.nil_append]
    exact encAll_empty fun ws hw => h ws (List.mem_cons_of_mem _ hw)
theorem spare_scan {t : Str} (h : Spare t) : ∀ e, Scan (tl t) e [] := by
  rcases h with rfl | rfl | rfl
  · exact fun e => .nil e
  · exact fun e => .blank (.blank (.blank (.nil _)))
  · exact fun e => .rem _ _
theorem tail_scan {t : Str} (h : Tail t) : (tl t = [] ∨ ∃ r, tl t = 32 :: r) ∧ ∀ e, Scan (tl t) e [] := by
  rcases h with rfl | rfl | rfl
  · exact ⟨.inl rfl, fun e => .nil e⟩
  · exact ⟨.inr ⟨_, rfl⟩, fun e => .blank (.nil _)⟩
  · exact ⟨.inr ⟨_, rfl⟩, fun e => .blank (.blank (.rem _ _))⟩
theorem small_rows {t : Str} : (Tail t ∨ Spare t) → (tl t).length ≤ 8 ∧ 10 ∉ tl t := by
  rintro ((rfl | rfl | rfl) | (rfl | rfl | rfl)) <;> decide +kernel
/-- the rows so far, with what was told of them -/
structure RowsOk (n : Nat) (rows : List Str) (due : List DV) (wss : List (List Wd)) : Prop where
  sc : ScanRows rows wss
  du : due = encAll 0 wss
  len : rows.length ≤ 2 * n
  row : ∀ r ∈ rows, (tl r).length ≤ 200 ∧ 10 ∉ tl r
  cnt : due.length ≤ 20 * n
structure RowOk (k : Nat) (n : Nat) (row last : Str) (more : List DV) (ws : List Wd) : Prop where
  ex : Ext (tl row) ws (tl last)
  du : more = ws.map (encW ((n : Int) + 1))
  len : (tl row).length ≤ 10 * k
  cnt : more.length ≤ k
  nl : 10 ∉ tl row
theorem RowsOk.next {n k : Nat} {rows : List Str} {due more : List DV} {wss : List (List Wd)} {row last t : Str} {ws : List Wd} {sp : List Str} (h : RowsOk n rows due wss) (h2 : RowOk k rows.length row last more ws) (hk : k ≤ 11)
    (ht : Tail t) (hsp : ∀ r ∈ sp, Spare r) (hl : sp.length ≤ 1) : RowsOk (n + 1) (rows ++ [ofL (tl row ++ tl t)] ++ sp) (due ++ more) (wss ++ [ws] ++ sp.map fun _ => []) := by
  have hsp2 : ∀ {sp : List Str}, (∀ r ∈ sp, Spare r) → ScanRows sp (sp.map fun _ => []) := by
    intro sp
    induction sp with
    | nil => intro _; exact trivial
    | cons r sp ih => exact fun h => ⟨spare_scan (h r List.mem_cons_self) 0, ih fun r hr => h r (List.mem_cons_of_mem _ hr)⟩
  have := h.len
  have := h.cnt
  have := h2.cnt
  refine ⟨scanRows_app (scanRows_app h.sc ⟨ext_end h2.ex (tail_scan ht).1 (tail_scan ht).2, trivial⟩) (hsp2 hsp), ?_, by simp; omega, fun r hr => ?_, by rw [List.length_append]; omega⟩
  · rw [encAll_app, encAll_app, encAll_empty (wss := sp.map _) (by simp), List.append_nil, ← h.du, h2.du, scanRows_len h.sc]
    simp [encAll]
  · simp only [List.mem_append, List.mem_singleton] at hr
    rcases hr with (hr | rfl) | hr
    · exact h.row r hr
    · have := small_rows (.inl ht)
      have := h2.len
      rw [tl_ofL, List.length_append]
      exact ⟨by omega, fun q => (List.mem_append.mp q).elim h2.nl (small_rows (.inl ht)).2⟩
    · have := small_rows (.inr (hsp r hr))
      exact ⟨by omega, this.2⟩
theorem RowOk.next {n k : Nat} {row last word : Str} {more : List DV} {ws : List Wd} {kd : Str} {g : Nat} (h : RowOk k n row last more ws) (hw : WordOk kd (tl word)) (hg : g ≤ 3) (hgl : g = 0 → NG (tl last) (tl word)) :
    RowOk (k + 1) n (ofL (tl row ++ List.replicate g 32 ++ tl word)) word (more ++ [.tup [.str kd, .str word, .tup [.int ((n : Int) + 1), .int ((tl row).length + g + 1)]]]) (ws ++ [(kd, tl word, (tl row).length + g)]) := by
  have := h.len
  have := h.cnt
  have hl := hw.2.2.1
  refine ⟨ext_word h.ex hw hgl, ?_, ?_, by simp; omega, ?_⟩
  · rw [List.map_append, ← h.du]
    simp only [List.map_cons, List.map_nil, encW, ofL_tl]
    simp
  · rw [tl_ofL, List.length_append, List.length_append, List.length_replicate]; omega
  · rw [tl_ofL]
    intro q
    rcases List.mem_append.mp q with q | q
    · rcases List.mem_append.mp q with q | q
      · exact h.nl q
      · have := List.eq_of_mem_replicate q; omega
    · exact hw.2.2.2.1 q
theorem joinL_len {c : Nat} : ∀ (ps : List (List Nat)), (TL.joinL [c] ps).length ≤ (ps.map List.length).sum + ps.length
  | [] => by simp [TL.joinL]
  | [p] => by simp [TL.joinL]
  | p :: q :: r => by
    have := joinL_len (c := c) (q :: r)
    simp only [TL.joinL, List.map_cons, List.sum_cons, List.length_cons, List.length_append] at this ⊢
    simp at this ⊢
    omega
theorem sum_le {rows : List Str} (h : ∀ r ∈ rows, (tl r).length ≤ 200) : (rows.map fun r => (tl r).length).sum ≤ 200 * rows.length := by
  induction rows with
  | nil => simp
  | cons r rows ih =>
    have h1 := h r List.mem_cons_self
    have h2 := ih fun r hr => h r (List.mem_cons_of_mem _ hr)
    rw [List.map_cons, List.sum_cons, List.length_cons]; omega
/-- what the text of the rows says -/
theorem text_ok {n : Nat} {rows : List Str} {due : List DV} {wss : List (List Wd)} (h : RowsOk n rows due wss) (hn : n ≤ 20) :
    ∃ (rs : List Str) (wss' : List (List Wd)), (tl (Txt.join "\n" rows)).length ≤ 10000000 ∧ Txt.split (Txt.join "\n" rows) (Str.ofString "\n") = rs ∧ (∀ r ∈ rs, (tl r).length ≤ 10000) ∧ rs.length ≤ 1000 ∧ ScanRows rs wss' ∧ due = encAll 0 wss' := by
  cases hr : rows with
  | nil =>
    subst hr
    have hw : wss = [] := by
      have := scanRows_len h.sc
      exact List.length_eq_zero_iff.mp this.symm
    subst hw
    refine ⟨[""], [[]], by decide +kernel, by decide +kernel, by decide +kernel, by decide, ⟨.nil _, trivial⟩, h.du⟩
  | cons r0 rs0 =>
    rw [← hr]
    refine ⟨rows, wss, ?_, split_join (y := "\n") (s := 10) (S := []) rfl (by decide +kernel) (by rw [hr]; simp) (fun p hp => (h.row p hp).2), fun r hr => by have := (h.row r hr).1; omega, by have := h.len; omega, h.sc, h.du⟩
    have h1 := joinL_len (c := 10) (rows.map tl)
    have h2 := sum_le fun r hr => (h.row r hr).1
    have h3 := h.len
    rw [TL.join_eq, TL.tl_join]
    rw [List.map_map, List.length_map] at h1
    have e : (List.length ∘ tl : Str → Nat) = fun r => (tl r).length := rfl
    rw [e] at h1
    show (TL.joinL [10] (rows.map tl)).length ≤ _
    omega
theorem pure_due {wss : List (List Wd)} (hl : (encAll 0 wss).length ≤ 1000000) : Pure 3 (.lst (encAll 0 wss)) := by
  refine .lst ?_ hl
  have : ∀ (wss : List (List Wd)) (n : Nat), ∀ x ∈ encAll n wss, Pure 2 x := by
    intro wss
    induction wss with
    | nil => intro n x hx; cases hx
    | cons ws wss ih =>
      intro n x hx
      rcases List.mem_append.mp hx with hx | hx
      · obtain ⟨w, _, rfl⟩ := List.mem_map.mp hx
        refine .tup (fun y hy => ?_) (by simp)
        simp only [List.mem_cons, List.not_mem_nil, or_false] at hy
        rcases hy with rfl | rfl | rfl
        · exact .str _
        · exact .str _
        · refine .tup (fun y hy => ?_) (by simp)
          simp only [List.mem_cons, List.not_mem_nil, or_false] at hy
          rcases hy with rfl | rfl
          · exact .int _
          · exact .int _
      · exact ih _ x hx
  exact this wss 0
theorem ng_of {last word : Str} (h : ¬ Glues last word) : NG (tl last) (tl word) := by
  intro x y hx hy q
  refine h ⟨x, y, hx, hy, ?_⟩
  rcases q with q | q | ⟨q1, q2⟩
  · exact .inl q
  · exact .inr (.inl q)
  · refine .inr (.inr ⟨ext_tl q1, ?_⟩)
    rcases q2 with rfl | rfl <;> decide
end W1

set_option Elab.async false
set_option linter.all false
set_option maxRecDepth 100000
namespace W1
open PySem PySem.Spec PyProof.Rows L2 TL DL
/-! ### words of an E, and the tree they tell -/
def plW (n : Int) (t : Wd) : DV := .tup [.int n, .int ((t.2.2 : Int) + 1)]
def isNx (xs : List Str) : Option Wd → Bool
  | none => false
  | some t => (t.1 = "sign" ∨ t.1 = "own") && decide (ofL t.2.1 ∈ xs)
/-- kind and word of the signs that bind at a level -/
def opsAt : Nat → List Str
  | 0 => ["or"]
  | 1 => ["and"]
  | 3 => ["=", "<>", "<", "<="]
  | 4 => ["+", "-"]
  | 5 => ["*", "/", "mod"]
  | _ => []
def kindOf (s : Str) : Str := if s ∈ (["or", "and", "mod"] : List Str) then "own" else "sign"
/-- what goes on behind an E of a level -/
def stops : Nat → List Str
  | 0 => ["or", "and", "=", "<>", "<", "<=", "+", "-", "*", "/", "mod", "(", "."]
  | 1 => ["and", "=", "<>", "<", "<=", "+", "-", "*", "/", "mod", "(", "."]
  | 2 => ["=", "<>", "<", "<=", "+", "-", "*", "/", "mod", "(", "."]
  | 3 => ["=", "<>", "<", "<=", "+", "-", "*", "/", "mod", "(", "."]
  | 4 => ["+", "-", "*", "/", "mod", "(", "."]
  | 5 => ["*", "/", "mod", "(", "."]
  | _ => ["(", "."]
def Stop (l : Nat) (rest : List Wd) : Prop := isNx (stops l) rest.head? = false
def heads : Nat → List Str
  | 0 => ["yes", "no", "(", "-", "not"]
  | 1 => ["yes", "no", "(", "-", "not"]
  | 2 => ["yes", "no", "(", "-", "not"]
  | 7 => ["yes", "no", "("]
  | _ => ["yes", "no", "(", "-"]
def sg (s : Str) (c : Nat) : Wd := ("sign", tl s, c)
def ow (s : Str) (c : Nat) : Wd := ("own", tl s, c)
def nmW (s : Str) (c : Nat) : Wd := ("name", tl s, c)
/-- a name, or name . name -/
inductive DotW : List Wd → Str → Str → Nat → Prop
  | one {m : Str} {c : Nat} : DotW [nmW m c] "" m c
  | two {f m : Str} {c c1 c2 : Nat} : DotW [nmW f c, sg "." c1, nmW m c2] f m c
abbrev Pt := Nat × List Wd × DV
def tailT (ps : List Pt) : List Wd := ps.flatMap fun p => sg "," p.1 :: p.2.1
def partsT : List Pt → List Wd
  | [] => []
  | p :: ps => p.2.1 ++ tailT ps
def lfOf (l : Nat) : Nat := if l = 3 then 4 else l
def plC (n : Int) (c : Nat) : DV := .tup [.int n, .int ((c : Int) + 1)]
/-- what is written where an E of a level stands, so deep; what it tells -/
inductive Wr (n : Int) : Nat → Nat → List Wd → DV → Prop
  | num {δ c : Nat} {w : List Nat} {i : Int} : PySem.intText? (ofL w) = some i → w.length ≤ 640 → Wr n 7 δ [("num", w, c)] (.tup [.str "num", plC n c, .int i])
  | tru {δ c : Nat} {b : Bool} : Wr n 7 δ [ow (if b then "yes" else "no") c] (.tup [.str "truth", plC n c, .bl b])
  | nam {δ c : Nat} {ts : List Wd} {f m : Str} : DotW ts f m c → Wr n 7 δ ts (.tup [.str "name", plC n c, .str f, .str m])
  | cal {δ c c1 c2 : Nat} {ts : List Wd} {f m : Str} {ps : List Pt} : DotW ts f m c → ps.length ≤ 1000 → (∀ p ∈ ps, Wr n 0 δ p.2.1 p.2.2) → Wr n 7 (δ + 1) (ts ++ (sg "(" c1 :: partsT ps ++ [sg ")" c2])) (.tup [.str "call", plC n c, .str f, .str m, .tup (ps.map fun p => p.2.2)])
  | brk {δ c1 c2 : Nat} {ts : List Wd} {v : DV} : Wr n 0 δ ts v → Wr n 7 (δ + 1) (sg "(" c1 :: ts ++ [sg ")" c2]) v
  | neg {δ c : Nat} {ts : List Wd} {v : DV} : Wr n 6 δ ts v → Wr n 6 (δ + 1) (sg "-" c :: ts) (.tup [.str "neg", plC n c, v])
  | not {δ c : Nat} {ts : List Wd} {v : DV} : Wr n 2 δ ts v → Wr n 2 (δ + 1) (ow "not" c :: ts) (.tup [.str "not", plC n c, v])
  | bin {l δ c : Nat} {op : Str} {ts us : List Wd} {v u : DV} : op ∈ opsAt l → Wr n (lfOf l) δ ts v → Wr n (l + 1) δ us u → Wr n l δ (ts ++ (kindOf op, tl op, c) :: us) (.tup [.str op, plC n c, v, u])
  | up {l δ : Nat} {ts : List Wd} {v : DV} : l < 7 → Wr n (l + 1) δ ts v → Wr n l δ ts v
theorem Wr.mono {n : Int} {l δ δ' : Nat} {ts : List Wd} {v : DV} (h : Wr n l δ ts v) (hd : δ ≤ δ') : Wr n l δ' ts v := by
  induction h generalizing δ' with
  | num h1 h2 => exact .num h1 h2
  | tru => exact .tru
  | nam h => exact .nam h
  | cal h1 h2 h3 ih =>
    obtain ⟨k, rfl⟩ : ∃ k, δ' = k + 1 := ⟨δ' - 1, by omega⟩
    exact .cal h1 h2 fun p hp => ih p hp (by omega)
  | brk h ih =>
    obtain ⟨k, rfl⟩ : ∃ k, δ' = k + 1 := ⟨δ' - 1, by omega⟩
    exact .brk (ih (by omega))
  | neg h ih =>
    obtain ⟨k, rfl⟩ : ∃ k, δ' = k + 1 := ⟨δ' - 1, by omega⟩
    exact .neg (ih (by omega))
  | not h ih =>
    obtain ⟨k, rfl⟩ : ∃ k, δ' = k + 1 := ⟨δ' - 1, by omega⟩
    exact .not (ih (by omega))
  | bin h1 h2 h3 ih2 ih3 => exact .bin h1 (ih2 hd) (ih3 hd)
  | up h1 h ih => exact .up h1 (ih hd)
theorem Wr.le {n : Int} {l δ : Nat} {ts : List Wd} {v : DV} (h : Wr n l δ ts v) : l ≤ 7 := by
  induction h with
  | bin h1 _ _ _ ih => omega
  | up h1 _ _ => omega
  | _ => omega
theorem Wr.ups {n : Int} {δ : Nat} {ts : List Wd} {v : DV} : ∀ {k l : Nat}, Wr n (l + k) δ ts v → Wr n l δ ts v
  | 0, l, h => h
  | k + 1, l, h => .up (by have := h.le; omega) (Wr.ups (k := k) (l := l + 1) (by rw [show l + 1 + k = l + (k + 1) by omega]; exact h))
theorem Wr.to {n : Int} {l l' δ : Nat} {ts : List Wd} {v : DV} (h : Wr n l' δ ts v) (hl : l ≤ l') : Wr n l δ ts v :=
  Wr.ups (k := l' - l) (by rw [show l + (l' - l) = l' by omega]; exact h)
/-! ### first words -/
def Hd (l : Nat) (t : Wd) : Prop := t.1 = "num" ∨ t.1 = "name" ∨ isNx (heads l) (some t) = true
theorem Hd.mono {l l' : Nat} {t : Wd} (h : Hd l' t) (hl : ∀ x ∈ heads l', x ∈ heads l) : Hd l t := by
  rcases h with h | h | h
  · exact .inl h
  · exact .inr (.inl h)
  · refine .inr (.inr ?_)
    simp only [isNx, Bool.and_eq_true, decide_eq_true_eq] at h ⊢
    exact ⟨h.1, hl _ h.2⟩
theorem heads_step : ∀ l, l < 7 → ∀ x ∈ heads (l + 1), x ∈ heads l := by decide +kernel
theorem heads_lf : ∀ l, l < 6 → ∀ x ∈ heads (lfOf l), x ∈ heads l := by decide +kernel
theorem opsAt_lt {l : Nat} {op : Str} (h : op ∈ opsAt l) : l < 6 := by
  unfold opsAt at h
  split at h <;> first | omega | cases h
theorem Dot_hd {ts : List Wd} {f m : Str} {c : Nat} (h : DotW ts f m c) : ∃ g r, ts = nmW g c :: r := by
  cases h with
  | one => exact ⟨_, _, rfl⟩
  | two => exact ⟨_, _, rfl⟩
theorem Wr.hd {n : Int} {l δ : Nat} {ts : List Wd} {v : DV} (h : Wr n l δ ts v) : ∃ t r, ts = t :: r ∧ Hd l t := by
  induction h with
  | num h1 h2 => exact ⟨_, _, rfl, .inl rfl⟩
  | @tru δ c b => exact ⟨_, _, rfl, .inr (.inr (by cases b <;> rfl))⟩
  | nam h => obtain ⟨g, r, rfl⟩ := Dot_hd h; exact ⟨_, _, rfl, .inr (.inl rfl)⟩
  | cal h1 h2 h3 ih => obtain ⟨g, r, rfl⟩ := Dot_hd h1; exact ⟨_, _, rfl, .inr (.inl rfl)⟩
  | brk h ih => exact ⟨_, _, rfl, .inr (.inr rfl)⟩
  | neg h ih => exact ⟨_, _, rfl, .inr (.inr rfl)⟩
  | not h ih => exact ⟨_, _, rfl, .inr (.inr rfl)⟩
  | bin h1 h2 h3 ih2 ih3 =>
    obtain ⟨t, r, rfl, ht⟩ := ih2
    exact ⟨t, _, rfl, ht.mono (heads_lf _ (opsAt_lt h1))⟩
  | up h1 h ih =>
    obtain ⟨t, r, rfl, ht⟩ := ih
    exact ⟨t, _, rfl, ht.mono (heads_step _ h1)⟩
theorem hd_not {l : Nat} {t : Wd} {xs : List Str} (h : Hd l t) (hx : ∀ x ∈ xs, x ∉ heads l) : isNx xs (some t) = false := by
  cases e : isNx xs (some t) with
  | false => rfl
  | true =>
    simp only [isNx, Bool.and_eq_true, decide_eq_true_eq] at e
    rcases h with h | h | h
    · rcases e.1 with q | q <;> rw [h] at q <;> exact absurd q (by decide)
    · rcases e.1 with q | q <;> rw [h] at q <;> exact absurd q (by decide)
    · simp only [isNx, Bool.and_eq_true, decide_eq_true_eq] at h
      exact absurd h.2 (hx _ e.2)
theorem stop_not {l : Nat} {rest : List Wd} {xs : List Str} (h : Stop l rest) (hx : ∀ x ∈ xs, x ∈ stops l) : isNx xs rest.head? = false := by
  unfold Stop at h
  cases e : rest.head? with
  | none => rfl
  | some t =>
    rw [e] at h
    cases q : isNx xs (some t) with
    | false => rfl
    | true =>
      simp only [isNx, Bool.and_eq_true, decide_eq_true_eq] at q
      have : isNx (stops l) (some t) = true := by
        simp only [isNx, Bool.and_eq_true, decide_eq_true_eq]
        exact ⟨q.1, hx _ q.2⟩
      rw [this] at h; cases h
theorem Stop.mono {l l' : Nat} {rest : List Wd} (h : Stop l rest) (hx : ∀ x ∈ stops l', x ∈ stops l) : Stop l' rest := stop_not h hx
theorem stops_up : ∀ l, l < 7 → ∀ x ∈ stops (l + 1), x ∈ stops l := by decide +kernel
theorem Stop.up {l : Nat} {rest : List Wd} (h : Stop l rest) (hl : l < 7) : Stop (l + 1) rest := h.mono (stops_up l hl)
/-! ### what is behind, told in a loop -/
inductive Rst (n : Int) (l δ : Nat) : DV → List Wd → DV → Prop
  | nil {v : DV} : Rst n l δ v [] v
  | cons {op : Str} {c : Nat} {us rs : List Wd} {v0 u v : DV} : op ∈ opsAt l → Wr n (l + 1) δ us u → Rst n l δ (.tup [.str op, plC n c, v0, u]) rs v → Rst n l δ v0 ((kindOf op, tl op, c) :: us ++ rs) v
theorem Rst.snoc {n : Int} {l δ : Nat} {v0 v : DV} {rs : List Wd} (h : Rst n l δ v0 rs v) {op : Str} {c : Nat} {us : List Wd} {u : DV} (ho : op ∈ opsAt l) (hu : Wr n (l + 1) δ us u) :
    Rst n l δ v0 (rs ++ (kindOf op, tl op, c) :: us) (.tup [.str op, plC n c, v, u]) := by
  induction h with
  | nil => simpa using Rst.cons ho hu .nil
  | cons h1 h2 h3 ih => simpa using Rst.cons h1 h2 ih
theorem Wr.chain {n : Int} {l δ : Nat} {ts : List Wd} {v : DV} (h : Wr n l δ ts v) (hl : l = 0 ∨ l = 1 ∨ l = 4 ∨ l = 5) : ∃ ts0 v0 rs, ts = ts0 ++ rs ∧ Wr n (l + 1) δ ts0 v0 ∧ Rst n l δ v0 rs v := by
  induction h with
  | bin h1 h2 h3 ih2 ih3 =>
    rename_i l _ _ _ _ _ _ _
    have e : lfOf l = l := by unfold lfOf; rw [if_neg (by omega)]
    obtain ⟨ts0, v0, rs, rfl, h4, h5⟩ := ih2 (by rw [e]; exact hl)
    rw [e] at h4 h5
    exact ⟨ts0, v0, _, List.append_assoc _ _ _, h4, h5.snoc h1 h3⟩
  | up h1 h ih => exact ⟨_, _, [], (List.append_nil _).symm, h, .nil⟩
  | not h ih => omega
  | neg h ih => omega
  | num h1 h2 => omega
  | tru => omega
  | nam h => omega
  | cal h1 h2 h3 ih => omega
  | brk h ih => omega
theorem Wr.cmp {n : Int} {δ : Nat} {ts : List Wd} {v : DV} (h : Wr n 3 δ ts v) : Wr n 4 δ ts v ∨ ∃ op c us ws a b, op ∈ opsAt 3 ∧ ts = us ++ (kindOf op, tl op, c) :: ws ∧ v = .tup [.str op, plC n c, a, b] ∧ Wr n 4 δ us a ∧ Wr n 4 δ ws b := by
  cases h with
  | bin h1 h2 h3 => exact .inr ⟨_, _, _, _, _, _, h1, rfl, rfl, h2, h3⟩
  | up h1 h => exact .inl h
theorem Wr.two {n : Int} {δ : Nat} {ts : List Wd} {v : DV} (h : Wr n 2 δ ts v) : Wr n 3 δ ts v ∨ ∃ c us a δ', δ = δ' + 1 ∧ ts = ow "not" c :: us ∧ v = .tup [.str "not", plC n c, a] ∧ Wr n 2 δ' us a := by
  cases h with
  | bin h1 h2 h3 => cases h1
  | up h1 h => exact .inl h
  | not h => exact .inr ⟨_, _, _, _, rfl, rfl, rfl, h⟩
theorem Wr.six {n : Int} {δ : Nat} {ts : List Wd} {v : DV} (h : Wr n 6 δ ts v) : Wr n 7 δ ts v ∨ ∃ c us a δ', δ = δ' + 1 ∧ ts = sg "-" c :: us ∧ v = .tup [.str "neg", plC n c, a] ∧ Wr n 6 δ' us a := by
  cases h with
  | bin h1 h2 h3 => cases h1
  | up h1 h => exact .inl h
  | neg h => exact .inr ⟨_, _, _, _, rfl, rfl, rfl, h⟩
theorem ops_stop : ∀ l, l < 6 → ∀ x ∈ opsAt l, x ∈ stops l ∧ x ∉ stops (l + 1) := by decide +kernel
theorem kind_ops {op : Str} : kindOf op = "sign" ∨ kindOf op = "own" := by
  unfold kindOf
  split
  · exact .inr rfl
  · exact .inl rfl
/-- a sign of a level is the next one -/
theorem nx_op {l : Nat} {op : Str} {c : Nat} (h : op ∈ opsAt l) : isNx (opsAt l) (some (kindOf op, tl op, c)) = true := by
  simp only [isNx, Bool.and_eq_true, decide_eq_true_eq, ofL_tl]
  exact ⟨kind_ops, h⟩
/-- .. and what is tighter stops there -/
theorem stop_op {l : Nat} {op : Str} {c : Nat} {r : List Wd} (h : op ∈ opsAt l) : Stop (l + 1) ((kindOf op, tl op, c) :: r) := by
  unfold Stop
  rw [List.head?_cons]
  cases e : isNx (stops (l + 1)) (some (kindOf op, tl op, c)) with
  | false => rfl
  | true =>
    simp only [isNx, Bool.and_eq_true, decide_eq_true_eq, ofL_tl] at e
    exact absurd e.2 (ops_stop l (opsAt_lt h) op h).2
theorem Rst.stop {n : Int} {l δ : Nat} {v0 v : DV} {rs rest : List Wd} (h : Rst n l δ v0 rs v) (hs : Stop l rest) (hl : l < 7) : Stop (l + 1) (rs ++ rest) := by
  cases h with
  | nil => exact hs.up hl
  | cons h1 h2 h3 => exact stop_op h1
theorem stop_sg {s : Str} {c : Nat} {l : Nat} {r : List Wd} (h : s ∉ stops l) : Stop l (sg s c :: r) := by
  unfold Stop
  rw [List.head?_cons]
  cases e : isNx (stops l) (some (sg s c)) with
  | false => rfl
  | true =>
    simp only [isNx, sg, Bool.and_eq_true, decide_eq_true_eq, ofL_tl] at e
    exact absurd e.2 h
theorem close_stop : ∀ l, l < 8 → (")" : Str) ∉ stops l ∧ ("," : Str) ∉ stops l := by decide +kernel
theorem Stop.nil {l : Nat} : Stop l [] := rfl
/-! ### a row that is read -/
def rowF (ws : List DV) (at' dp : Int) : List (Str × DV) := [("words", .lst ws), ("at", .int at'), ("deep", .int dp)]
def RwC (C : Addr) (n : Int) (pre toks : List Wd) (d : Nat) : Cell := .ins C (rowF ((pre ++ toks).map (encW n)) (pre.length : Int) (d : Int))
end W1

set_option Elab.async false
set_option linter.all false
set_option maxRecDepth 100000
namespace W1
open PySem PySem.Spec PyProof.Rows L2 TL DL
section
variable {C a : Addr} {ws : List DV} {i j at' dp : Int} {n : Int} {pre toks : List Wd} {t : Wd} {d : Nat} {K : List (Str × DV) → Prop} {v : DV}
theorem rw_on : onI (some (RwC C n pre toks d)) C K = K (rowF ((pre ++ toks).map (encW n)) (pre.length : Int) (d : Int)) := onI_e1
theorem rf_words : (rowF ws at' dp).lookup ("words" : Str) = some (.lst ws) := rfl
theorem rf_at : (rowF ws at' dp).lookup ("at" : Str) = some (.int at') := rfl
theorem rf_deep : (rowF ws at' dp).lookup ("deep" : Str) = some (.int dp) := rfl
theorem rf_len : (rowF ws at' dp).length = 3 := rfl
theorem rp_at : dputF "at" (.int i) (rowF ws at' dp) = rowF ws i dp := rfl
theorem rp_deep : dputF "deep" (.int i) (rowF ws at' dp) = rowF ws at' i := rfl
theorem rp_w0 : dputF "words" (.lst ws) [] = ([("words", .lst ws)] : List (Str × DV)) := rfl
theorem rp_a0 : dputF "at" v ([("words", .lst ws)] : List (Str × DV)) = ([("words", .lst ws), ("at", v)] : List (Str × DV)) := rfl
theorem rp_d0 : dputF "deep" (.int j) ([("words", .lst ws), ("at", .int i)] : List (Str × DV)) = rowF ws i j := rfl
theorem rn_next_is : (rowF ws at' dp).lookup ("next_is" : Str) = none := rfl
theorem rn_is_kind : (rowF ws at' dp).lookup ("is_kind" : Str) = none := rfl
theorem rn_take : (rowF ws at' dp).lookup ("take" : Str) = none := rfl
theorem rn_take_one : (rowF ws at' dp).lookup ("take_one" : Str) = none := rfl
theorem rn_take_name : (rowF ws at' dp).lookup ("take_name" : Str) = none := rfl
theorem rn_end : (rowF ws at' dp).lookup ("end" : Str) = none := rfl
theorem rn_go_in : (rowF ws at' dp).lookup ("go_in" : Str) = none := rfl
theorem rn_whole : (rowF ws at' dp).lookup ("whole" : Str) = none := rfl
theorem rn_both : (rowF ws at' dp).lookup ("both" : Str) = none := rfl
theorem rn_turned : (rowF ws at' dp).lookup ("turned" : Str) = none := rfl
theorem rn_compared : (rowF ws at' dp).lookup ("compared" : Str) = none := rfl
theorem rn_summed : (rowF ws at' dp).lookup ("summed" : Str) = none := rfl
theorem rn_multiplied : (rowF ws at' dp).lookup ("multiplied" : Str) = none := rfl
theorem rn_signed : (rowF ws at' dp).lookup ("signed" : Str) = none := rfl
theorem rn_single : (rowF ws at' dp).lookup ("single" : Str) = none := rfl
theorem rn_dotted : (rowF ws at' dp).lookup ("dotted" : Str) = none := rfl
theorem rn_handed : (rowF ws at' dp).lookup ("handed" : Str) = none := rfl
theorem rw_take : Cell.ins C (rowF ((pre ++ t :: toks).map (encW n)) ((pre.length : Int) + 1) (d : Int)) = RwC C n (pre ++ [t]) toks d := by
  unfold RwC
  simp
theorem rw_up : Cell.ins C (rowF ((pre ++ toks).map (encW n)) (pre.length : Int) ((d : Int) + 1)) = RwC C n pre toks (d + 1) := by
  unfold RwC
  simp
theorem rw_down : Cell.ins C (rowF ((pre ++ toks).map (encW n)) (pre.length : Int) (((d + 1 : Nat) : Int) - 1)) = RwC C n pre toks d := by
  unfold RwC
  rw [show ((d + 1 : Nat) : Int) - 1 = (d : Int) by omega]
theorem rw_new : Cell.ins C (rowF (toks.map (encW n)) 0 0) = RwC C n [] toks 0 := rfl
theorem atI_row : atI ((pre ++ t :: toks).map (encW n)) (pre.length : Int) = some (.tup [.str t.1, .str (ofL t.2.1), plW n t]) := by
  rw [atI_nat_, List.getElem?_map, List.getElem?_append_right (Nat.le_refl _), Nat.sub_self]
  rfl
theorem get_row : (List.map (encW n) (pre ++ t :: toks))[pre.length]? = some (.tup [.str t.1, .str (ofL t.2.1), plW n t]) := by
  rw [List.getElem?_map, List.getElem?_append_right (Nat.le_refl _), Nat.sub_self]
  rfl
theorem rw_inD {w : Str} {xs : List Str} : inD (.str w) (xs.map DV.str) = decide (w ∈ xs) := by
  induction xs with
  | nil => rfl
  | cons x xs ih =>
    rw [List.map_cons, inD_cons, ih]
    by_cases h : w = x
    · subst h; simp [eqF]
    · have h' : x ≠ w := Ne.symm h
      simp [eqF, h, h']
theorem rw_flat {xs : List Str} : (xs.map DV.str).all flatD = true := by
  induction xs with
  | nil => rfl
  | cons x xs ih => rw [List.map_cons, List.all_cons, ih]; rfl
theorem row_len0 : (((pre ++ []).map (encW n)).length : Int) ≤ (pre.length : Int) := by simp
theorem row_len1 : ¬ (((pre ++ t :: toks).map (encW n)).length : Int) ≤ (pre.length : Int) := by simp; omega
theorem row_lt0 : ¬ (pre.length : Int) < (((pre ++ []).map (encW n)).length : Int) := by simp
theorem row_lt1 : (pre.length : Int) < (((pre ++ t :: toks).map (encW n)).length : Int) := by simp; omega
theorem kind_e {kd : Str} : decide (t.1 = kd) = decide (t.1 = kd) := rfl
end
def isKd (kd : Str) : Option Wd → Bool
  | none => false
  | some t => decide (t.1 = kd)
theorem isKd_some {kd : Str} {t : Wd} {r : List Wd} : isKd kd (t :: r).head? = decide (t.1 = kd) := rfl
theorem isNx_some {xs : List Str} {t : Wd} {r : List Wd} : isNx xs (t :: r).head? = isNx xs (some t) := rfl
theorem nx_yes {xs : List Str} {t : Wd} (h : ("sign" : Str) = t.1 ∨ ("own" : Str) = t.1) : isNx xs (some t) = decide (ofL t.2.1 ∈ xs) := by
  have h : t.1 = "sign" ∨ t.1 = "own" := h.imp Eq.symm Eq.symm
  show (decide (t.1 = "sign" ∨ t.1 = "own") && decide (ofL t.2.1 ∈ xs)) = _
  rw [decide_eq_true h, Bool.true_and]
theorem nx_no {xs : List Str} {t : Wd} (h : ¬ ("sign" : Str) = t.1 ∧ ¬ ("own" : Str) = t.1) : isNx xs (some t) = false := by
  have h : ¬ (t.1 = "sign" ∨ t.1 = "own") := by
    rintro (q | q)
    · exact h.1 q.symm
    · exact h.2 q.symm
  show (decide (t.1 = "sign" ∨ t.1 = "own") && decide (ofL t.2.1 ∈ xs)) = _
  rw [decide_eq_false h, Bool.false_and]
theorem app_eq {C : Addr} {n : Int} {p x y z : List Wd} {d : Nat} : some (RwC C n p ((x ++ y) ++ z) d) = some (RwC C n p (x ++ (y ++ z)) d) := by rw [List.append_assoc]
theorem tailT_cons {p : Pt} {ps : List Pt} : tailT (p :: ps) = sg "," p.1 :: (p.2.1 ++ tailT ps) := rfl
theorem stop_tail {ps : List Pt} {c2 : Nat} {rest : List Wd} : Stop 0 (tailT ps ++ sg ")" c2 :: rest) := by
  cases ps with
  | nil => exact stop_sg (by decide)
  | cons p ps => exact stop_sg (s := ",") (by decide)
theorem plW_eq {n : Int} {k : Str} {w : List Nat} {c : Nat} : plW n (k, w, c) = plC n c := rfl
theorem plW_sg {n : Int} {s : Str} {c : Nat} : plW n (sg s c) = plC n c := rfl
theorem plW_ow {n : Int} {s : Str} {c : Nat} : plW n (ow s c) = plC n c := rfl
theorem plW_nm {n : Int} {s : Str} {c : Nat} : plW n (nmW s c) = plC n c := rfl
theorem wd_sg {s : Str} {c : Nat} : ofL (sg s c).2.1 = s := ofL_tl _
theorem wd_ow {s : Str} {c : Nat} : ofL (ow s c).2.1 = s := ofL_tl _
theorem wd_nm {s : Str} {c : Nat} : ofL (nmW s c).2.1 = s := ofL_tl _
theorem nx_sg {xs : List Str} {s : Str} {c : Nat} : isNx xs (some (sg s c)) = decide (s ∈ xs) := by
  simp [isNx, sg, ofL_tl]
theorem nx_ow {xs : List Str} {s : Str} {c : Nat} : isNx xs (some (ow s c)) = decide (s ∈ xs) := by
  simp [isNx, ow, ofL_tl]
theorem nx_nm {xs : List Str} {s : Str} {c : Nat} : isNx xs (some (nmW s c)) = false := by
  have h1 : ((nmW s c).1 = "sign") = False := eq_false (by show ¬ ((("name" : Str)) = "sign"); decide)
  have h2 : ((nmW s c).1 = "own") = False := eq_false (by show ¬ ((("name" : Str)) = "own"); decide)
  simp [isNx, h1, h2]
theorem kd_sg {kd s : Str} {c : Nat} (h : kd ≠ "sign") : isKd kd (some (sg s c)) = false := by
  show decide (("sign" : Str) = kd) = false
  exact decide_eq_false (Ne.symm h)
theorem kd_ow {kd s : Str} {c : Nat} (h : kd ≠ "own") : isKd kd (some (ow s c)) = false := by
  show decide (("own" : Str) = kd) = false
  exact decide_eq_false (Ne.symm h)
theorem kd_nm {s : Str} {c : Nat} : isKd "name" (some (nmW s c)) = true := rfl
theorem kd_nm2 {s : Str} {c : Nat} : isKd "num" (some (nmW s c)) = false := rfl
end W1

set_option Elab.async false
set_option linter.all false
set_option maxRecDepth 100000
namespace W1
open PySem PySem.Spec PyProof.Rows L2 TL DL
/-! ### what is worth something, as a tree -/
inductive Ex where
  | num (n : Nat) | truth (b : Bool) | name (f n : Str) | call (f n : Str) (as : List Ex) | un (neg : Bool) (a : Ex) | bin (op : Str) (a b : Ex)
abbrev binOps : List Str := ["or", "and", "=", "<>", "<", "<=", "+", "-", "*", "/", "mod"]
mutual
def enc : Ex → DV
  | .num n => .tup [.str "num", .non, .int (n : Int)]
  | .truth b => .tup [.str "truth", .non, .bl b]
  | .name f n => .tup [.str "name", .non, .str f, .str n]
  | .call f n as => .tup [.str "call", .non, .str f, .str n, .tup (encL as)]
  | .un neg a => .tup [.str (if neg then "neg" else "not"), .non, enc a]
  | .bin op a b => .tup [.str op, .non, enc a, enc b]
def encL : List Ex → List DV
  | [] => []
  | e :: es => enc e :: encL es
end
def opLev (op : Str) : Nat := if op = "or" then 1 else if op = "and" then 2 else if op = "+" ∨ op = "-" then 5 else if op = "*" ∨ op = "/" ∨ op = "mod" then 6 else 4
def paren (b : Prop) [Decidable b] (s : Str) : Str := if b then s else "(" ++ s ++ ")"
def nmT (f n : Str) : Str := if f = "" then n else f ++ "." ++ n
def lsum (m : Nat) : Nat := if m = 4 then m + 1 else m
mutual
def tx : Ex → Nat → Str
  | .num n, _ => toString (n : Int)
  | .truth b, _ => if b then "yes" else "no"
  | .name f n, _ => nmT f n
  | .call f n as, _ => nmT f n ++ "(" ++ Txt.join ", " (txL as) ++ ")"
  | .un neg a, l => if neg then paren (7 ≥ l) ("-" ++ tx a 7) else paren (3 ≥ l) ("not " ++ tx a 3)
  | .bin op a b, l => paren (opLev op ≥ l) (tx a (lsum (opLev op)) ++ " " ++ op ++ " " ++ tx b (opLev op + 1))
def txL : List Ex → List Str
  | [] => []
  | e :: es => tx e 1 :: txL es
end
mutual
/-- well made, of a depth -/
def WF : Nat → Ex → Prop
  | 0, _ => False
  | d + 1, .num n => n < 1000000
  | d + 1, .truth _ => True
  | d + 1, .name f n => (tl f).length ≤ 10 ∧ (tl n).length ≤ 10
  | d + 1, .call f n as => (tl f).length ≤ 10 ∧ (tl n).length ≤ 10 ∧ as.length ≤ 3 ∧ WFL d as
  | d + 1, .un _ a => WF d a
  | d + 1, .bin op a b => op ∈ binOps ∧ WF d a ∧ WF d b
def WFL : Nat → List Ex → Prop
  | _, [] => True
  | d, e :: es => WF d e ∧ WFL d es
end
/-- how long the text of a depth may be -/
def room : Nat → Nat
  | 0 => 10
  | d + 1 => 3 * room d + 60
theorem op_len : ∀ s ∈ binOps, (tl s).length ≤ 3 := by decide +kernel
theorem paren_len {b : Prop} [Decidable b] {s : Str} : (tl (paren b s)).length ≤ (tl s).length + 2 := by
  unfold paren
  split
  · omega
  · rw [app_len, app_len]
    have e1 : (tl (Str.ofString "(")).length = 1 := rfl
    have e2 : (tl (Str.ofString ")")).length = 1 := rfl
    omega
theorem nmT_len {f n : Str} (h1 : (tl f).length ≤ 10) (h2 : (tl n).length ≤ 10) : (tl (nmT f n)).length ≤ 21 := by
  unfold nmT
  split
  · omega
  · rw [app_len, app_len]
    have e1 : (tl (Str.ofString ".")).length = 1 := rfl
    omega
theorem txL_length : ∀ as : List Ex, (txL as).length = as.length
  | [] => by simp [txL]
  | a :: as => by simp [txL, txL_length as]
theorem encL_length : ∀ as : List Ex, (encL as).length = as.length
  | [] => by simp [encL]
  | a :: as => by simp [encL, encL_length as]
theorem room_up (d : Nat) : 10 ≤ room d := by
  cases d with
  | zero => simp [room]
  | succ d => simp only [room]; omega
mutual
theorem tx_len : ∀ (e : Ex) (d l : Nat), WF d e → (tl (tx e l)).length ≤ room d
  | e, 0, l, h => by simp [WF] at h
  | .num n, d + 1, l, h => by
    simp only [WF] at h
    simp only [tx, room]
    have := num_len h
    omega
  | .truth b, d + 1, l, h => by
    have e : (tl (tx (.truth b) l)).length ≤ 3 := by
      simp only [tx]
      cases b <;> decide
    simp only [room]; omega
  | .name f n, d + 1, l, h => by
    simp only [WF] at h
    simp only [tx, room]
    have := nmT_len h.1 h.2
    omega
  | .call f n as, d + 1, l, h => by
    simp only [WF] at h
    obtain ⟨h1, h2, h3, h4⟩ := h
    have := nmT_len h1 h2
    have := join_len (sep := ", ") (txL_len as d h4)
    rw [txL_length] at this
    have e3 : (tl (Str.ofString ", ")).length = 2 := rfl
    rw [e3] at this
    have hm : room d * as.length ≤ room d * 3 := Nat.mul_le_mul_left _ h3
    have e1 : (tl (Str.ofString "(")).length = 1 := rfl
    have e2 : (tl (Str.ofString ")")).length = 1 := rfl
    simp only [tx, room]
    rw [app_len, app_len, app_len]
    omega
  | .un neg a, d + 1, l, h => by
    simp only [WF] at h
    have i1 := tx_len a d 7 h
    have i2 := tx_len a d 3 h
    simp only [tx, room]
    cases neg
    · have := paren_len (b := 3 ≥ l) (s := "not " ++ tx a 3)
      rw [app_len] at this
      have e1 : (tl (Str.ofString "not ")).length = 4 := rfl
      simp only [Bool.false_eq_true, if_false]
      omega
    · have := paren_len (b := 7 ≥ l) (s := "-" ++ tx a 7)
      rw [app_len] at this
      have e1 : (tl (Str.ofString "-")).length = 1 := rfl
      simp only [if_true]
      omega
  | .bin op a b, d + 1, l, h => by
    simp only [WF] at h
    obtain ⟨h1, h2, h3⟩ := h
    have i1 := tx_len a d (lsum (opLev op)) h2
    have i2 := tx_len b d (opLev op + 1) h3
    have i3 := op_len op h1
    have := paren_len (b := opLev op ≥ l) (s := tx a (lsum (opLev op)) ++ " " ++ op ++ " " ++ tx b (opLev op + 1))
    rw [app_len, app_len, app_len, app_len] at this
    have e1 : (tl (Str.ofString " ")).length = 1 := rfl
    simp only [tx, room]
    omega
theorem txL_len : ∀ (as : List Ex) (d : Nat), WFL d as → ∀ s ∈ txL as, (tl s).length ≤ room d
  | [], d, h => by simp [txL]
  | a :: as, d, h => by
    simp only [WFL] at h
    intro s hs
    simp only [txL, List.mem_cons] at hs
    rcases hs with rfl | hs
    · exact tx_len a d 1 h.1
    · exact txL_len as d h.2 s hs
end
end W1
namespace W1
open PySem PySem.Spec PyProof.Rows L2 TL DL
theorem par_ok {Q : DVK} {O : Own} {m l : Nat} {s : Str} (hs : (tl s).length ≤ 1000000) (k : Q (.str (paren (m ≥ l) s)) O) : if (l : Int) ≤ (m : Int) then Q (.str s) O else (tl (Str.ofString "(")).length + (tl s).length ≤ sizeLine ∧ (tl (Str.ofString "(" ++ s)).length + (tl (Str.ofString ")")).length ≤ sizeLine ∧ Q (.str (Str.ofString "(" ++ s ++ Str.ofString ")")) O := by
  have e1 : (tl (Str.ofString "(")).length = 1 := rfl
  have e2 : (tl (Str.ofString ")")).length = 1 := rfl
  unfold paren at k
  refine ite_c (fun q => ?_) (fun q => ⟨line_of (by omega), line_of (by rw [app_len]; omega), ?_⟩)
  · rw [if_pos (by omega)] at k; exact k
  · rw [if_neg (by omega)] at k; exact k
theorem op_ne {op : Str} (h : op ∈ binOps) : op ≠ "num" ∧ op ≠ "truth" ∧ op ≠ "name" ∧ op ≠ "call" ∧ op ≠ "not" ∧ op ≠ "neg" ∧ "name" ≠ op ∧ "call" ≠ op := by
  have k : ∀ op ∈ binOps, op ≠ "num" ∧ op ≠ "truth" ∧ op ≠ "name" ∧ op ≠ "call" ∧ op ≠ "not" ∧ op ≠ "neg" ∧ "name" ≠ op ∧ "call" ≠ op := by decide +kernel
  exact k op h
theorem opLev_le {op : Str} : opLev op ≤ 6 ∧ 1 ≤ opLev op := by
  unfold opLev
  repeat' split
  all_goals omega
theorem room_mono {a b : Nat} (h : a ≤ b) : room a ≤ room b := by
  induction h with
  | refl => exact Nat.le_refl _
  | step h ih => simp only [room]; omega
theorem room_le {n : Nat} (h : n ≤ 6) : room n ≤ 50000 := by
  have := room_mono h
  have : room 6 = 29130 := by decide
  omega
theorem tx_le {e : Ex} {n l : Nat} (h : WF n e) (hn : n ≤ 6) : (tl (tx e l)).length ≤ 50000 := Nat.le_trans (tx_len e n l h) (room_le hn)
end W1
namespace W1
open PySem PySem.Spec PyProof.Rows L2 TL DL
theorem encL_map : ∀ as : List Ex, encL as = as.map enc
  | [] => by simp [encL]
  | a :: as => by simp [encL, encL_map as]
theorem txL_map : ∀ as : List Ex, txL as = as.map fun e => tx e 1
  | [] => by simp [txL]
  | a :: as => by simp [txL, txL_map as]
theorem wfl_mem {d : Nat} : ∀ {as : List Ex}, WFL d as → ∀ e ∈ as, WF d e
  | [], _, e, h => by cases h
  | a :: as, h, e, he => by
    simp only [WFL] at h
    rcases List.mem_cons.mp he with rfl | he
    · exact h.1
    · exact wfl_mem h.2 e he
theorem strsOf_strs : ∀ l : List Str, strsOf (l.map DV.str) = some l
  | [] => rfl
  | x :: l => by
    have := strsOf_strs l
    simp only [List.map_cons, strsOf, this]
/-- a comprehension over the parts of a call -/
theorem args_lc {n : Nat} {as : List Ex} {b : DV → DSt → Option DSt} {te : DTE} {S : DSt} {Q : DVK} {O : Own} (hl : as.length ≤ 3)
    (hs : ∀ e ∈ as, ∀ K : DVK, K (.str (tx e 1)) O → onSome (b (enc e) S) fun S2 => te S2 O K) (h : Q (.lst ((txL as).map DV.str)) O) : lcW false b dYes te S Q (encL as) [] O := by
  refine lcW_pure _ ((txL as).map DV.str) [] (by rw [List.length_map, txL_length, encL_length]) (by rw [encL_length]; show 0 + _ < _; omega) (fun i x y e1 e2 K hK => ?_) h
  rw [encL_map, List.getElem?_map] at e1
  rw [txL_map, List.map_map, List.getElem?_map] at e2
  cases e0 : as[i]? with
  | none => rw [e0] at e1; cases e1
  | some e =>
    rw [e0] at e1 e2
    cases e1; cases e2
    exact hs e (List.mem_of_getElem? e0) K hK
end W1
namespace W1
open PySem PySem.Spec PyProof.Rows L2 TL DL
def LevOf (w : Str) (m : Nat) : Prop := (w ∈ binOps ∧ m + 1 = opLev w) ∨ (w = "not" ∧ m = 2) ∨ (w = "neg" ∧ m = 6) ∨ (w ∈ (["num", "truth", "name", "call"] : List Str) ∧ m = 7)
theorem range8 : (List.range (Int.toNat 8)).map (fun k : Nat => DV.int k) = [.int 0, .int 1, .int 2, .int 3, .int 4, .int 5, .int 6, .int 7] := rfl
end W1
namespace W1
open PySem PySem.Spec PyProof.Rows L2 TL DL
theorem nn_not : dget (dmerge [] [(Sum.inr (Str.ofString "not"), DV.str (Str.ofString "not ")), (Sum.inr (Str.ofString "neg"), DV.str (Str.ofString "-"))] : List (Key × DV)) (Sum.inr (Str.ofString "not")) = some (.str (Str.ofString "not ")) := rfl
theorem nn_neg : dget (dmerge [] [(Sum.inr (Str.ofString "not"), DV.str (Str.ofString "not ")), (Sum.inr (Str.ofString "neg"), DV.str (Str.ofString "-"))] : List (Key × DV)) (Sum.inr (Str.ofString "neg")) = some (.str (Str.ofString "-")) := rfl
end W1
namespace W1
open PySem PySem.Spec PyProof.Rows L2 TL DL
theorem par_ok1 {Q : DVK} {O : Own} {m l : Nat} {s : Str} (hs : (tl s).length ≤ 1000000) (k : Q (.str (paren (m + 1 ≥ l + 1) s)) O) : if (l : Int) ≤ (m : Int) then Q (.str s) O else (tl (Str.ofString "(")).length + (tl s).length ≤ sizeLine ∧ (tl (Str.ofString "(" ++ s)).length + (tl (Str.ofString ")")).length ≤ sizeLine ∧ Q (.str (Str.ofString "(" ++ s ++ Str.ofString ")")) O := by
  have e1 : (tl (Str.ofString "(")).length = 1 := rfl
  have e2 : (tl (Str.ofString ")")).length = 1 := rfl
  unfold paren at k
  refine ite_c (fun q => ?_) (fun q => ⟨line_of (by omega), line_of (by rw [app_len]; omega), ?_⟩)
  · rw [if_pos (by omega)] at k; exact k
  · rw [if_neg (by omega)] at k; exact k
end W1
namespace W1
open PySem PySem.Spec PyProof.Rows L2 TL DL
theorem lcW_filt {ow : Bool} {b : DV → DSt → Option DSt} {tt : DTT} {te : DTE} {S : DSt} {Q : DVK} {O : Own} (p : Nat → Bool) : ∀ (ks : List Nat) (acc : List DV),
    (∀ k ∈ ks, ∀ K : Bool → Own → Prop, K (p k) O → onSome (b (.int (k : Int)) S) fun S2 => tt S2 O K) → (∀ k ∈ ks, ∀ K : DVK, K (.int (k : Int)) O → onSome (b (.int (k : Int)) S) fun S2 => te S2 O K) → acc.length + ks.length < 16000000 →
    endLc ow Q (acc ++ (ks.filter p).map fun k : Nat => DV.int k) O → lcW ow b tt te S Q (ks.map fun k : Nat => DV.int k) acc O
  | [], acc, _, _, _, h => by rw [List.filter_nil, List.map_nil, List.append_nil] at h; exact h
  | k :: ks, acc, h1, h2, hl, h => by
    rw [List.length_cons] at hl
    rw [List.map_cons]
    unfold lcW
    have hS2 : ∃ S2, b (.int (k : Int)) S = some S2 := by
      obtain ⟨S2, e, _⟩ := onSome_ex (h1 k List.mem_cons_self (fun _ _ => True) trivial)
      exact ⟨S2, e⟩
    obtain ⟨S2, e⟩ := hS2
    have t1 : ∀ K : Bool → Own → Prop, K (p k) O → tt S2 O K := fun K hK => by
      obtain ⟨S3, e3, h3⟩ := onSome_ex (h1 k List.mem_cons_self K hK)
      rw [e] at e3; cases e3; exact h3
    have t2 : ∀ K : DVK, K (.int (k : Int)) O → te S2 O K := fun K hK => by
      obtain ⟨S3, e3, h3⟩ := onSome_ex (h2 k List.mem_cons_self K hK)
      rw [e] at e3; cases e3; exact h3
    refine onSome_of e (t1 _ ?_)
    cases hp : p k with
    | true =>
      rw [if_pos rfl]
      refine t2 _ ⟨by omega, lcW_filt p ks _ (fun k hk => h1 k (List.mem_cons_of_mem _ hk)) (fun k hk => h2 k (List.mem_cons_of_mem _ hk)) (by rw [List.length_append]; simp; omega) ?_⟩
      rw [List.filter_cons_of_pos hp] at h
      rw [List.append_assoc]; exact h
    | false =>
      rw [if_neg (by decide)]
      refine lcW_filt p ks _ (fun k hk => h1 k (List.mem_cons_of_mem _ hk)) (fun k hk => h2 k (List.mem_cons_of_mem _ hk)) (by omega) ?_
      rw [List.filter_cons_of_neg (by rw [hp]; decide)] at h
      exact h
def levP (w : Str) : Nat → Bool
  | 0 => decide ("or" = w)
  | 1 => decide ("and" = w)
  | 2 => decide ("not" = w)
  | 3 => decide ("=" = w) || (decide ("<>" = w) || (decide ("<" = w) || decide ("<=" = w)))
  | 4 => decide ("+" = w) || decide ("-" = w)
  | 5 => decide ("*" = w) || (decide ("/" = w) || decide ("mod" = w))
  | 6 => decide ("neg" = w)
  | _ => true
theorem levP_at {w : Str} {m : Nat} (h : LevOf w m) : ((List.range 8).filter (levP w))[0]? = some m := by
  have k : ∀ w ∈ binOps, ((List.range 8).filter (levP w))[0]? = some (opLev w - 1) ∧ 1 ≤ opLev w := by decide +kernel
  have k2 : ∀ w ∈ (["num", "truth", "name", "call"] : List Str), ((List.range 8).filter (levP w))[0]? = some 7 := by decide +kernel
  rcases h with ⟨h1, h2⟩ | ⟨rfl, rfl⟩ | ⟨rfl, rfl⟩ | ⟨h1, rfl⟩
  · obtain ⟨a, b⟩ := k w h1
    rw [a]; congr 1; omega
  · decide +kernel
  · decide +kernel
  · exact k2 w h1
end W1

set_option Elab.async false
set_option linter.all false
set_option maxRecDepth 100000
namespace W1
open PySem PySem.Spec PyProof.Rows L2 TL DL
/-- data of a depth whose texts are made of signs that there are -/
inductive PureS : Nat → DV → Prop
  | non {n} : PureS n .non
  | bl {n} (b) : PureS n (.bl b)
  | int {n} (i) : PureS n (.int i)
  | str {n} (x : Str) : x.cps.all (· < 0x110000) = true → PureS n (.str x)
  | tup {n} {xs : List DV} : (∀ x ∈ xs, PureS n x) → PureS (n + 1) (.tup xs)
  | lst {n} {xs : List DV} : (∀ x ∈ xs, PureS n x) → PureS (n + 1) (.lst xs)
theorem toPys_all {n : Nat} : ∀ {xs : List DV}, (∀ x ∈ xs, ∃ p, toPy x = some p ∧ p.canLay0 = true ∧ p.depth ≤ n) → ∃ ps, toPys xs = some ps ∧ PyData.canLayAll0 ps = true ∧ PyData.depthAll ps ≤ n ∧ ps.length = xs.length
  | [], _ => ⟨[], rfl, rfl, Nat.zero_le _, rfl⟩
  | x :: xs, h => by
    obtain ⟨p, e, h1, h2⟩ := h x List.mem_cons_self
    obtain ⟨ps, e', h3, h4, h5⟩ := toPys_all fun x hx => h x (List.mem_cons_of_mem _ hx)
    refine ⟨p :: ps, by simp only [toPys, e, e'], by simp only [PyData.canLayAll0, h1, h3]; rfl, ?_, by simp [h5]⟩
    show max p.depth (PyData.depthAll ps) ≤ n
    omega
theorem pure_py : ∀ {n : Nat} {d : DV}, PureS n d → ∃ p, toPy d = some p ∧ p.canLay0 = true ∧ p.depth ≤ n := by
  intro n d h
  induction h with
  | non => exact ⟨_, rfl, rfl, Nat.zero_le _⟩
  | bl b => exact ⟨_, rfl, rfl, Nat.zero_le _⟩
  | int i => exact ⟨_, rfl, rfl, Nat.zero_le _⟩
  | str x hx => exact ⟨.str x, rfl, hx, Nat.zero_le _⟩
  | @tup n xs _ ih =>
    obtain ⟨ps, e, h1, h2, _⟩ := toPys_all ih
    exact ⟨.tuple ps, by simp only [toPy, e], h1, Nat.succ_le_succ h2⟩
  | @lst n xs _ ih =>
    obtain ⟨ps, e, h1, h2, _⟩ := toPys_all ih
    exact ⟨.list ps, by simp only [toPy, e], h1, Nat.succ_le_succ h2⟩
theorem shaped_of {n : Nat} {p : PyData} (h : p.canLay0 = true) (h2 : p.depth ≤ n) (hn : n ≤ 64) : SeqAt.shaped p = true := by
  unfold SeqAt.shaped
  rw [h, decide_eq_true (by omega)]; rfl
/-- a tuple that is not empty, beside the empty one -/
theorem tup_nil {neg : Bool} {n : Nat} {xs : List DV} {O : Own} {Q : DVK} (h : PureS n (.tup xs)) (hn : n ≤ 64) (k : Q (.bl (if neg then !decide (xs = []) else decide (xs = []))) O) : dEqP neg (.tup xs) (.tup []) O Q := by
  obtain ⟨p, e, h1, h2⟩ := pure_py h
  unfold dEqP
  refine onSome_of e (onSome_of (x := .tuple []) rfl ⟨shaped_of h1 h2 hn, rfl, ?_⟩)
  have e2 : PyData.eqv p (.tuple []) = decide (xs = []) := by
    cases xs with
    | nil => simp only [toPy, toPys] at e; cases e; rfl
    | cons x xs =>
      simp only [toPy, toPys] at e
      cases e3 : toPy x with
      | none => rw [e3] at e; cases e
      | some q =>
        cases e4 : toPys xs with
        | none => rw [e3, e4] at e; cases e
        | some qs => rw [e3, e4] at e; cases e; rfl
  rw [e2]
  exact k
end W1

set_option Elab.async false
set_option linter.all false
set_option maxRecDepth 100000
namespace W1
open PySem PySem.Spec PyProof.Rows L2 TL DL
/-! ### rows, as trees -/
inductive Rw where
  | lt (new : Bool) (n : Str) (e : Ex) | one (w : Str) (e : Option Ex) | iff (t : Ex) (a b : List Rw) | whl (t : Ex) (a : List Rw)
def encO : Option Ex → DV
  | none => .non
  | some e => enc e
mutual
def encR : Rw → DV
  | .lt new n e => .tup [.str (if new then "let" else "set"), .non, .str n, enc e]
  | .one w e => .tup [.str w, .non, encO e]
  | .iff t a b => .tup [.str "if", .non, enc t, .tup (encRs a), .tup (encRs b)]
  | .whl t a => .tup [.str "while", .non, enc t, .tup (encRs a)]
def encRs : List Rw → List DV
  | [] => []
  | r :: rs => encR r :: encRs rs
end
def oneTx (w : Str) (ahead : Str) : Option Ex → Str
  | none => ahead ++ w
  | some e => ahead ++ w ++ " " ++ tx e 1
mutual
def rowTx : Rw → Str → List Str
  | .lt new n e, ahead => [if new then ahead ++ "let " ++ n ++ " = " ++ tx e 1 else ahead ++ n ++ " = " ++ tx e 1]
  | .one w e, ahead => [oneTx w ahead e]
  | .iff t a b, ahead => [ahead ++ "if" ++ " " ++ tx t 1] ++ blkTx a (ahead ++ "  ") ++ (match b with | [] => [] | r :: rs => (ahead ++ "else") :: (rowTx r (ahead ++ "  ") ++ blkTx rs (ahead ++ "  "))) ++ [ahead ++ "end"]
  | .whl t a, ahead => [ahead ++ "while" ++ " " ++ tx t 1] ++ blkTx a (ahead ++ "  ") ++ [ahead ++ "end"]
def blkTx : List Rw → Str → List Str
  | [], _ => []
  | r :: rs, ahead => rowTx r ahead ++ blkTx rs ahead
end
/-- the depth of what is drawn, not to be looked through -/
def sixP : { n : Nat // n ≤ 6 ∧ n = 3 } := ⟨3, by decide, rfl⟩
@[irreducible] def sixO : { n : Nat // n ≤ 6 ∧ n = 3 } := sixP
def six : Nat := sixO.1
theorem six_le : six ≤ 6 := sixO.2.1
theorem six_eq : six = 3 := sixO.2.2
mutual
/-- well made rows, nested below d -/
def WFR : Nat → Rw → Prop
  | 0, _ => False
  | d + 1, .lt _ n e => (tl n).length ≤ 10 ∧ WF six e
  | d + 1, .one w none => w = "give"
  | d + 1, .one w (some e) => w ∈ (["give", "say", "do"] : List Str) ∧ WF six e
  | d + 1, .iff t a b => WF six t ∧ a.length ≤ 5 ∧ b.length ≤ 5 ∧ WFRs d a ∧ WFRs d b
  | d + 1, .whl t a => WF six t ∧ a.length ≤ 5 ∧ WFRs d a
def WFRs : Nat → List Rw → Prop
  | _, [] => True
  | d, r :: rs => WFR d r ∧ WFRs d rs
end
/-- how many texts a row of a depth may be -/
def cntR : Nat → Nat
  | 0 => 1
  | d + 1 => 10 * cntR d + 3
theorem encRs_length : ∀ as : List Rw, (encRs as).length = as.length
  | [] => by simp [encRs]
  | a :: as => by simp [encRs, encRs_length as]
theorem encRs_map : ∀ as : List Rw, encRs as = as.map encR
  | [] => by simp [encRs]
  | a :: as => by simp [encRs, encRs_map as]
theorem wfrs_mem {d : Nat} : ∀ {as : List Rw}, WFRs d as → ∀ e ∈ as, WFR d e
  | [], _, e, h => by cases h
  | a :: as, h, e, he => by
    simp only [WFRs] at h
    rcases List.mem_cons.mp he with rfl | he
    · exact h.1
    · exact wfrs_mem h.2 e he
/-- WF only grows -/
theorem WF_up : ∀ (d : Nat) (e : Ex), WF d e → WF (d + 1) e := by
  have key : ∀ (d : Nat), (∀ e, WF d e → WF (d + 1) e) := by
    intro d
    induction d with
    | zero => intro e h; simp [WF] at h
    | succ d ih =>
      have ihL : ∀ as : List Ex, WFL d as → WFL (d + 1) as := by
        intro as
        induction as with
        | nil => intro _; simp [WFL]
        | cons a as ih2 => intro h; simp only [WFL] at h ⊢; exact ⟨ih a h.1, ih2 h.2⟩
      intro e h
      cases e with
      | num n => simp only [WF] at h ⊢; exact h
      | truth b => simp only [WF]
      | name f n => simp only [WF] at h ⊢; exact h
      | call f n as => simp only [WF] at h ⊢; exact ⟨h.1, h.2.1, h.2.2.1, ihL as h.2.2.2⟩
      | un neg a => simp only [WF] at h ⊢; exact ih a h
      | bin op a b => simp only [WF] at h ⊢; exact ⟨h.1, ih a h.2.1, ih b h.2.2⟩
  exact key
end W1
namespace W1
open PySem PySem.Spec PyProof.Rows L2 TL DL
mutual
theorem rowTx_len : ∀ (r : Rw) (d : Nat) (a : Str), WFR d r → (rowTx r a).length ≤ cntR d
  | r, 0, a, h => by simp [WFR] at h
  | .lt new n e, d + 1, a, h => by simp [rowTx, cntR]
  | .one w e, d + 1, a, h => by simp [rowTx, cntR]
  | .iff t x [], d + 1, a, h => by
    simp only [WFR] at h
    have i1 := blkTx_len x d (a ++ "  ") h.2.2.2.1
    have : x.length * cntR d ≤ 5 * cntR d := Nat.mul_le_mul_right _ h.2.1
    simp only [rowTx, cntR, List.length_append, List.length_cons, List.length_nil]
    omega
  | .iff t x (y :: ys), d + 1, a, h => by
    simp only [WFR, WFRs] at h
    have i1 := blkTx_len x d (a ++ "  ") h.2.2.2.1
    have i2 := rowTx_len y d (a ++ "  ") h.2.2.2.2.1
    have i3 := blkTx_len ys d (a ++ "  ") h.2.2.2.2.2
    have : x.length * cntR d ≤ 5 * cntR d := Nat.mul_le_mul_right _ h.2.1
    have h5 : ys.length ≤ 4 := by have := h.2.2.1; simp at this; omega
    have : ys.length * cntR d ≤ 4 * cntR d := Nat.mul_le_mul_right _ h5
    simp only [rowTx, cntR, List.length_append, List.length_cons, List.length_nil]
    omega
  | .whl t x, d + 1, a, h => by
    simp only [WFR] at h
    have i1 := blkTx_len x d (a ++ "  ") h.2.2
    have : x.length * cntR d ≤ 5 * cntR d := Nat.mul_le_mul_right _ h.2.1
    simp only [rowTx, cntR, List.length_append, List.length_cons, List.length_nil]
    omega
theorem blkTx_len : ∀ (rs : List Rw) (d : Nat) (a : Str), WFRs d rs → (blkTx rs a).length ≤ rs.length * cntR d
  | [], d, a, h => by simp [blkTx]
  | r :: rs, d, a, h => by
    simp only [WFRs] at h
    have i1 := rowTx_len r d a h.1
    have i2 := blkTx_len rs d a h.2
    simp only [blkTx, List.length_append, List.length_cons, Nat.add_mul, Nat.one_mul]
    omega
end
end W1

namespace W1
open PySem PySem.Spec PyProof.Rows L2 TL DL
theorem isNon_enc (e : Ex) : DL.isNon (enc e) = false := by cases e <;> simp only [enc] <;> rfl
/-- signs that there are -/
def Cps (x : Str) : Prop := x.cps.all (· < 0x110000) = true
theorem cps_of {x : Str} (h : ∀ c ∈ tl x, c < 0x110000) : Cps x := by
  unfold Cps
  rw [← Array.all_toList, List.all_eq_true]
  exact fun c hc => decide_eq_true (h c hc)
mutual
def PE : Ex → Prop
  | .num _ => True
  | .truth _ => True
  | .name f n => Cps f ∧ Cps n
  | .call f n as => Cps f ∧ Cps n ∧ PEL as
  | .un _ a => PE a
  | .bin _ a b => PE a ∧ PE b
def PEL : List Ex → Prop
  | [] => True
  | e :: es => PE e ∧ PEL es
end
mutual
def PR : Rw → Prop
  | .lt _ n e => Cps n ∧ PE e
  | .one _ none => True
  | .one _ (some e) => PE e
  | .iff t a b => PE t ∧ PRs a ∧ PRs b
  | .whl t a => PE t ∧ PRs a
def PRs : List Rw → Prop
  | [] => True
  | r :: rs => PR r ∧ PRs rs
end
theorem PureS.mono {n m : Nat} {d : DV} (h : PureS n d) : n ≤ m → PureS m d := by
  induction h generalizing m with
  | non => intro _; exact .non
  | bl b => intro _; exact .bl b
  | int b => intro _; exact .int b
  | str x hx => intro _; exact .str x hx
  | @tup n xs _ ih =>
    intro hm
    cases m with
    | zero => omega
    | succ m => exact .tup fun x hx => ih x hx (by omega)
  | @lst n xs _ ih =>
    intro hm
    cases m with
    | zero => omega
    | succ m => exact .lst fun x hx => ih x hx (by omega)
theorem cps_lit : Cps "num" ∧ Cps "truth" ∧ Cps "name" ∧ Cps "call" ∧ Cps "neg" ∧ Cps "not" ∧ Cps "let" ∧ Cps "set" ∧ Cps "if" ∧ Cps "while" ∧ Cps "" ∧ Cps "yes" ∧ Cps "give" ∧ Cps "say" ∧ Cps "do" := by
  unfold Cps; decide +kernel
theorem cps_op {op : Str} (h : op ∈ binOps) : Cps op := by
  have k : ∀ op ∈ binOps, op.cps.all (· < 0x110000) = true := by decide +kernel
  exact k op h
mutual
theorem pure_enc : ∀ (e : Ex) (d : Nat), WF d e → PE e → PureS (2 * d) (enc e)
  | e, 0, h, _ => by simp [WF] at h
  | .num n, d + 1, h, hp => by
    simp only [enc]
    refine .tup (n := 2 * d + 1) fun x hx => ?_
    simp only [List.mem_cons, List.not_mem_nil, or_false] at hx
    rcases hx with rfl | rfl | rfl
    · exact .str _ cps_lit.1
    · exact .non
    · exact .int _
  | .truth b, d + 1, h, hp => by
    simp only [enc]
    refine .tup (n := 2 * d + 1) fun x hx => ?_
    simp only [List.mem_cons, List.not_mem_nil, or_false] at hx
    rcases hx with rfl | rfl | rfl
    · exact .str _ cps_lit.2.1
    · exact .non
    · exact .bl _
  | .name f m, d + 1, h, hp => by
    simp only [PE] at hp
    simp only [enc]
    refine .tup (n := 2 * d + 1) fun x hx => ?_
    simp only [List.mem_cons, List.not_mem_nil, or_false] at hx
    rcases hx with rfl | rfl | rfl | rfl
    · exact .str _ cps_lit.2.2.1
    · exact .non
    · exact .str _ hp.1
    · exact .str _ hp.2
  | .call f m as, d + 1, h, hp => by
    simp only [PE] at hp
    simp only [WF] at h
    simp only [enc]
    refine .tup (n := 2 * d + 1) fun x hx => ?_
    simp only [List.mem_cons, List.not_mem_nil, or_false] at hx
    rcases hx with rfl | rfl | rfl | rfl | rfl
    · exact .str _ cps_lit.2.2.2.1
    · exact .non
    · exact .str _ hp.1
    · exact .str _ hp.2.1
    · exact .tup (n := 2 * d) (pure_encL as d h.2.2.2 hp.2.2)
  | .un neg a, d + 1, h, hp => by
    simp only [PE] at hp
    simp only [WF] at h
    simp only [enc]
    refine .tup (n := 2 * d + 1) fun x hx => ?_
    simp only [List.mem_cons, List.not_mem_nil, or_false] at hx
    rcases hx with rfl | rfl | rfl
    · cases neg
      · exact .str _ cps_lit.2.2.2.2.2.1
      · exact .str _ cps_lit.2.2.2.2.1
    · exact .non
    · exact (pure_enc a d h hp).mono (by omega)
  | .bin op a b, d + 1, h, hp => by
    simp only [PE] at hp
    simp only [WF] at h
    simp only [enc]
    refine .tup (n := 2 * d + 1) fun x hx => ?_
    simp only [List.mem_cons, List.not_mem_nil, or_false] at hx
    rcases hx with rfl | rfl | rfl | rfl
    · exact .str _ (cps_op h.1)
    · exact .non
    · exact (pure_enc a d h.2.1 hp.1).mono (by omega)
    · exact (pure_enc b d h.2.2 hp.2).mono (by omega)
theorem pure_encL : ∀ (as : List Ex) (d : Nat), WFL d as → PEL as → ∀ x ∈ encL as, PureS (2 * d) x
  | [], d, h, _ => by simp [encL]
  | a :: as, d, h, hp => by
    simp only [WFL] at h
    simp only [PEL] at hp
    intro x hx
    simp only [encL, List.mem_cons] at hx
    rcases hx with rfl | hx
    · exact pure_enc a d h.1 hp.1
    · exact pure_encL as d h.2 hp.2 x hx
end
theorem pure_six {e : Ex} {m : Nat} (h : WF six e) (hp : PE e) (hm : 12 ≤ m) : PureS m (enc e) := (pure_enc e six h hp).mono (by have := six_eq; omega)
mutual
theorem pure_encR : ∀ (r : Rw) (d : Nat), WFR d r → PR r → PureS (2 * d + 14) (encR r)
  | r, 0, h, _ => by simp [WFR] at h
  | .lt new m e, d + 1, h, hp => by
    simp only [PR] at hp
    simp only [WFR] at h
    simp only [encR]
    refine .tup (n := 2 * d + 15) fun x hx => ?_
    simp only [List.mem_cons, List.not_mem_nil, or_false] at hx
    rcases hx with rfl | rfl | rfl | rfl
    · cases new
      · exact .str _ cps_lit.2.2.2.2.2.2.2.1
      · exact .str _ cps_lit.2.2.2.2.2.2.1
    · exact .non
    · exact .str _ hp.1
    · exact pure_six h.2 hp.2 (by omega)
  | .one w none, d + 1, h, hp => by
    simp only [WFR] at h
    subst h
    simp only [encR, encO]
    refine .tup (n := 2 * d + 15) fun x hx => ?_
    simp only [List.mem_cons, List.not_mem_nil, or_false] at hx
    rcases hx with rfl | rfl | rfl
    · exact .str _ cps_lit.2.2.2.2.2.2.2.2.2.2.2.2.1
    · exact .non
    · exact .non
  | .one w (some e), d + 1, h, hp => by
    simp only [WFR] at h
    simp only [PR] at hp
    simp only [encR, encO]
    refine .tup (n := 2 * d + 15) fun x hx => ?_
    simp only [List.mem_cons, List.not_mem_nil, or_false] at hx
    rcases hx with rfl | rfl | rfl
    · have k : ∀ w ∈ (["give", "say", "do"] : List Str), w.cps.all (· < 0x110000) = true := by decide +kernel
      exact .str _ (k w h.1)
    · exact .non
    · exact pure_six h.2 hp (by omega)
  | .iff t a b, d + 1, h, hp => by
    simp only [WFR] at h
    simp only [PR] at hp
    simp only [encR]
    refine .tup (n := 2 * d + 15) fun x hx => ?_
    simp only [List.mem_cons, List.not_mem_nil, or_false] at hx
    rcases hx with rfl | rfl | rfl | rfl | rfl
    · exact .str _ cps_lit.2.2.2.2.2.2.2.2.1
    · exact .non
    · exact pure_six h.1 hp.1 (by omega)
    · exact .tup (n := 2 * d + 14) (pure_encRs a d h.2.2.2.1 hp.2.1)
    · exact .tup (n := 2 * d + 14) (pure_encRs b d h.2.2.2.2 hp.2.2)
  | .whl t a, d + 1, h, hp => by
    simp only [WFR] at h
    simp only [PR] at hp
    simp only [encR]
    refine .tup (n := 2 * d + 15) fun x hx => ?_
    simp only [List.mem_cons, List.not_mem_nil, or_false] at hx
    rcases hx with rfl | rfl | rfl | rfl
    · exact .str _ cps_lit.2.2.2.2.2.2.2.2.2.1
    · exact .non
    · exact pure_six h.1 hp.1 (by omega)
    · exact .tup (n := 2 * d + 14) (pure_encRs a d h.2.2 hp.2)
theorem pure_encRs : ∀ (rs : List Rw) (d : Nat), WFRs d rs → PRs rs → ∀ x ∈ encRs rs, PureS (2 * d + 14) x
  | [], d, h, _ => by simp [encRs]
  | a :: as, d, h, hp => by
    simp only [WFRs] at h
    simp only [PRs] at hp
    intro x hx
    simp only [encRs, List.mem_cons] at hx
    rcases hx with rfl | hx
    · exact pure_encR a d h.1 hp.1
    · exact pure_encRs as d h.2 hp.2 x hx
end
end W1

namespace W1
open PySem PySem.Spec PyProof.Rows L2 TL DL
mutual
/-- how many rows -/
def cR : Rw → Nat
  | .lt _ _ _ => 1
  | .one _ _ => 1
  | .iff _ a b => 1 + cRs a + cRs b
  | .whl _ a => 1 + cRs a
def cRs : List Rw → Nat
  | [] => 0
  | r :: rs => cR r + cRs rs
end
mutual
theorem rowTx_cnt : ∀ (r : Rw) (a : Str), (rowTx r a).length ≤ 3 * cR r
  | .lt new n e, a => by simp [rowTx, cR]
  | .one w e, a => by simp [rowTx, cR]
  | .iff t x [], a => by
    have i1 := blkTx_cnt x (a ++ "  ")
    simp only [rowTx, cR, cRs, List.length_append, List.length_cons, List.length_nil]
    omega
  | .iff t x (y :: ys), a => by
    have i1 := blkTx_cnt x (a ++ "  ")
    have i2 := rowTx_cnt y (a ++ "  ")
    have i3 := blkTx_cnt ys (a ++ "  ")
    simp only [rowTx, cR, cRs, List.length_append, List.length_cons, List.length_nil]
    omega
  | .whl t x, a => by
    have i1 := blkTx_cnt x (a ++ "  ")
    simp only [rowTx, cR, List.length_append, List.length_cons, List.length_nil]
    omega
theorem blkTx_cnt : ∀ (rs : List Rw) (a : Str), (blkTx rs a).length ≤ 3 * cRs rs
  | [], a => by simp [blkTx]
  | r :: rs, a => by
    have i1 := rowTx_cnt r a
    have i2 := blkTx_cnt rs a
    simp only [blkTx, cRs, List.length_append]
    omega
end
theorem room3 : room six = 1050 := by rw [six_eq]; decide
theorem tx_six {e : Ex} {l : Nat} (h : WF six e) : (tl (tx e l)).length ≤ 1050 := by have := tx_len e six l h; rw [room3] at this; exact this
theorem lenl : (tl (Str.ofString "let ")).length = 4 ∧ (tl (Str.ofString " = ")).length = 3 ∧ (tl (Str.ofString " ")).length = 1 ∧ (tl (Str.ofString "if")).length = 2 ∧ (tl (Str.ofString "while")).length = 5 ∧ (tl (Str.ofString "else")).length = 4 ∧ (tl (Str.ofString "end")).length = 3 ∧ (tl (Str.ofString "give")).length = 4 ∧ (tl (Str.ofString "  ")).length = 2 := ⟨rfl, rfl, rfl, rfl, rfl, rfl, rfl, rfl, rfl⟩
mutual
theorem rowTx_each : ∀ (r : Rw) (d : Nat) (a : Str), WFR d r → ∀ s ∈ rowTx r a, (tl s).length ≤ (tl a).length + 2 * d + 1080
  | r, 0, a, h => by simp [WFR] at h
  | .lt new n e, d + 1, a, h => by
    intro s hs
    simp only [WFR] at h
    have := tx_six (l := 1) h.2
    simp only [rowTx, List.mem_singleton] at hs
    subst hs
    obtain ⟨l1, l2, l3, _⟩ := lenl
    cases new <;> simp only [Bool.false_eq_true, if_true, if_false, app_len] <;> omega
  | .one w none, d + 1, a, h => by
    intro s hs
    simp only [WFR] at h
    subst h
    simp only [rowTx, oneTx, List.mem_singleton] at hs
    subst hs
    obtain ⟨l1, l2, l3, l4, l5, l6, l7, l8, l9⟩ := lenl
    rw [app_len]; omega
  | .one w (some e), d + 1, a, h => by
    intro s hs
    simp only [WFR] at h
    have := tx_six (l := 1) h.2
    have k : ∀ w ∈ (["give", "say", "do"] : List Str), (tl w).length ≤ 4 := by decide +kernel
    have := k w h.1
    simp only [rowTx, oneTx, List.mem_singleton] at hs
    subst hs
    obtain ⟨l1, l2, l3, l4, l5, l6, l7, l8, l9⟩ := lenl
    simp only [app_len]; omega
  | .iff t x [], d + 1, a, h => by
    intro s hs
    simp only [WFR] at h
    have := tx_six (l := 1) h.1
    obtain ⟨l1, l2, l3, l4, l5, l6, l7, l8, l9⟩ := lenl
    simp only [rowTx, List.append_nil, List.mem_append, List.mem_cons, List.not_mem_nil, or_false] at hs
    rcases hs with (rfl | hs) | rfl
    · simp only [app_len]; omega
    · have := blkTx_each x d (a ++ "  ") h.2.2.2.1 s hs
      rw [app_len] at this; omega
    · rw [app_len]; omega
  | .iff t x (y :: ys), d + 1, a, h => by
    intro s hs
    simp only [WFR, WFRs] at h
    have := tx_six (l := 1) h.1
    obtain ⟨l1, l2, l3, l4, l5, l6, l7, l8, l9⟩ := lenl
    simp only [rowTx, List.mem_append, List.mem_cons, List.not_mem_nil, or_false] at hs
    rcases hs with ((rfl | hs) | rfl | hs | hs) | rfl
    · simp only [app_len]; omega
    · have := blkTx_each x d (a ++ "  ") h.2.2.2.1 s hs
      rw [app_len] at this; omega
    · rw [app_len]; omega
    · have := rowTx_each y d (a ++ "  ") h.2.2.2.2.1 s hs
      rw [app_len] at this; omega
    · have := blkTx_each ys d (a ++ "  ") h.2.2.2.2.2 s hs
      rw [app_len] at this; omega
    · rw [app_len]; omega
  | .whl t x, d + 1, a, h => by
    intro s hs
    simp only [WFR] at h
    have := tx_six (l := 1) h.1
    obtain ⟨l1, l2, l3, l4, l5, l6, l7, l8, l9⟩ := lenl
    simp only [rowTx, List.mem_append, List.mem_singleton] at hs
    rcases hs with (rfl | hs) | rfl
    · simp only [app_len]; omega
    · have := blkTx_each x d (a ++ "  ") h.2.2 s hs
      rw [app_len] at this; omega
    · rw [app_len]; omega
theorem blkTx_each : ∀ (rs : List Rw) (d : Nat) (a : Str), WFRs d rs → ∀ s ∈ blkTx rs a, (tl s).length ≤ (tl a).length + 2 * d + 1080
  | [], d, a, h => by simp [blkTx]
  | r :: rs, d, a, h => by
    intro s hs
    simp only [WFRs] at h
    simp only [blkTx, List.mem_append] at hs
    rcases hs with hs | hs
    · exact rowTx_each r d a h.1 s hs
    · exact blkTx_each rs d a h.2 s hs
end
/-! ### what a file tells -/
inductive Td where
  | val (w : Str) (out : Bool) (n : Str) (e : Ex) | dfn (out : Bool) (n : Str) (ps : List (Str × Str)) (kd : Str) (rs : List Rw)
def encP (p : Str × Str) : DV := .tup [.non, .str p.1, .str p.2]
def encT : Td → DV
  | .val w out n e => .tup [.str w, .non, .bl out, .str n, enc e]
  | .dfn out n ps kd rs => .tup [.str "def", .non, .bl out, .str n, .tup (ps.map encP), .str kd, .tup (encRs rs), .non]
def WFT : Td → Prop
  | .val w _ n e => (w = "const" ∨ w = "keep") ∧ (tl n).length ≤ 10 ∧ WF six e
  | .dfn _ n ps kd rs => (tl n).length ≤ 10 ∧ ps.length ≤ 3 ∧ (∀ p ∈ ps, (tl p.1).length ≤ 10 ∧ (tl p.2).length ≤ 3) ∧ (tl kd).length ≤ 3 ∧ WFRs 4 rs ∧ PRs rs ∧ rs.length ≤ 5 ∧ cRs rs ≤ 41
def outT (b : Bool) : Str := if b then "out " else ""
def prT (p : Str × Str) : Str := p.1 ++ " " ++ p.2
def hdT (out : Bool) (n : Str) (ps : List (Str × Str)) (kd : Str) : Str := outT out ++ "def " ++ n ++ "(" ++ Txt.join ", " (ps.map prT) ++ ")" ++ (if kd = "" then ("" : Str) else (" " : Str) ++ kd)
def toldTx : Td → List Str
  | .val w out n e => [outT out ++ w ++ " " ++ n ++ " = " ++ tx e 1]
  | .dfn out n ps kd rs => hdT out n ps kd :: (blkTx rs "  " ++ [("end" : Str)])
def allTx : List Td → List Str
  | [] => []
  | t :: ts => toldTx t ++ allTx ts
def useTx (us : List Str) : List Str := if us = [] then [] else [("use " : Str) ++ Txt.join ", " us]
def fileTx (us : List Str) (ts : List Td) : Str := Txt.join "\n" (useTx us ++ allTx ts)
theorem lenl2 : (tl (Str.ofString "out ")).length = 4 ∧ (tl (Str.ofString "")).length = 0 ∧ (tl (Str.ofString "def ")).length = 4 ∧ (tl (Str.ofString "(")).length = 1 ∧ (tl (Str.ofString ")")).length = 1 ∧ (tl (Str.ofString ", ")).length = 2 ∧ (tl (Str.ofString "const")).length = 5 ∧ (tl (Str.ofString "keep")).length = 4 := ⟨rfl, rfl, rfl, rfl, rfl, rfl, rfl, rfl⟩
theorem outT_len {b : Bool} : (tl (outT b)).length ≤ 4 := by cases b <;> decide
theorem prT_join {ps : List (Str × Str)} (h : ps.length ≤ 3) (h2 : ∀ p ∈ ps, (tl p.1).length ≤ 10 ∧ (tl p.2).length ≤ 3) : (tl (Txt.join (Str.ofString ", ") (ps.map prT))).length ≤ 60 ∧ ((ps.map prT).map fun s => (tl s).length).sum ≤ 42 := by
  obtain ⟨l1, l2, l3, l4, l5, l6, l7, l8⟩ := lenl2
  have e : ∀ s ∈ ps.map prT, (tl s).length ≤ 14 := by
    intro s hs
    obtain ⟨p, hp, rfl⟩ := List.mem_map.mp hs
    have := h2 p hp
    have := lenl.2.2.1
    unfold prT
    simp only [app_len]; omega
  have hj := join_len (sep := Str.ofString ", ") e
  have hs := sum_len_le e
  rw [List.length_map] at hj hs
  rw [l6] at hj
  omega
theorem hdT_len {out : Bool} {n : Str} {ps : List (Str × Str)} {kd : Str} (h0 : (tl n).length ≤ 10) (h : ps.length ≤ 3) (h2 : ∀ p ∈ ps, (tl p.1).length ≤ 10 ∧ (tl p.2).length ≤ 3) (h3 : (tl kd).length ≤ 3) : (tl (hdT out n ps kd)).length ≤ 100 := by
  obtain ⟨l1, l2, l3, l4, l5, l6, l7, l8⟩ := lenl2
  have := (prT_join h h2).1
  have := outT_len (b := out)
  have := lenl.2.2.1
  unfold hdT
  split <;> simp only [app_len] <;> omega
theorem toldTx_cnt {t : Td} (h : WFT t) : (toldTx t).length ≤ 125 := by
  cases t with
  | val w out n e => simp [toldTx]
  | dfn out n ps kd rs =>
    simp only [WFT] at h
    have := blkTx_cnt rs "  "
    simp only [toldTx, List.length_cons, List.length_append, List.length_nil]
    omega
theorem toldTx_each {t : Td} (h : WFT t) : ∀ s ∈ toldTx t, (tl s).length ≤ 1100 := by
  obtain ⟨l1, l2, l3, l4, l5, l6, l7, l8⟩ := lenl2
  obtain ⟨k1, k2, k3, k4, k5, k6, k7, k8, k9⟩ := lenl
  cases t with
  | val w out n e =>
    simp only [WFT] at h
    intro s hs
    simp only [toldTx, List.mem_singleton] at hs
    subst hs
    have := tx_six (l := 1) h.2.2
    have := outT_len (b := out)
    have hw : (tl w).length ≤ 5 := by rcases h.1 with rfl | rfl <;> decide
    simp only [app_len]; omega
  | dfn out n ps kd rs =>
    simp only [WFT] at h
    obtain ⟨h1, h2, h3, h4, h5, _⟩ := h
    intro s hs
    simp only [toldTx, List.mem_cons, List.mem_append, List.mem_singleton, List.not_mem_nil, or_false] at hs
    rcases hs with rfl | hs | rfl
    · have := hdT_len (out := out) h1 h2 h3 h4; omega
    · have := blkTx_each rs 4 "  " h5 s hs; omega
    · omega
theorem allTx_cnt : ∀ {ts : List Td}, (∀ t ∈ ts, WFT t) → (allTx ts).length ≤ 125 * ts.length
  | [], _ => by simp [allTx]
  | t :: ts, h => by
    have i1 := toldTx_cnt (h t List.mem_cons_self)
    have i2 := allTx_cnt fun t ht => h t (List.mem_cons_of_mem _ ht)
    simp only [allTx, List.length_append, List.length_cons]; omega
theorem allTx_each : ∀ {ts : List Td}, (∀ t ∈ ts, WFT t) → ∀ s ∈ allTx ts, (tl s).length ≤ 1100
  | [], _ => by simp [allTx]
  | t :: ts, h => by
    intro s hs
    simp only [allTx, List.mem_append] at hs
    rcases hs with hs | hs
    · exact toldTx_each (h t List.mem_cons_self) s hs
    · exact allTx_each (fun t ht => h t (List.mem_cons_of_mem _ ht)) s hs
end W1

set_option Elab.async false
set_option linter.all false
set_option maxRecDepth 100000
namespace W1
open PySem PySem.Spec PyProof.Rows L2 TL DL
/-! ### what is drawn -/
theorem nodup_sub_len {α : Type} [DecidableEq α] : ∀ {l m : List α}, l.Nodup → (∀ x ∈ l, x ∈ m) → l.length ≤ m.length
  | [], m, _, _ => Nat.zero_le _
  | x :: l, m, nd, h => by
    have hx := h x List.mem_cons_self
    obtain ⟨h1, h2⟩ := List.nodup_cons.mp nd
    have := nodup_sub_len (l := l) (m := m.erase x) h2 fun y hy => (List.mem_erase_of_ne (by rintro rfl; exact h1 hy)).mpr (h y (List.mem_cons_of_mem _ hy))
    rw [List.length_erase_of_mem hx] at this
    have := List.length_pos_of_mem hx
    rw [List.length_cons]; omega
abbrev cB : List Nat := tl (Str.ofString "bfhjpqrtvxz")
abbrev cV : List Nat := tl (Str.ofString "abdefilmnostuwy")
/-- what is tried where a name is used -/
def candL (k : Nat) : List Nat := [cB.getD (k % 11) 0, cV.getD (k / 11 % 15) 0]
def cand (k : Nat) : Str := ofL (candL k)
theorem candL_nd : ((List.range 165).map candL).Nodup := by decide +kernel
theorem cand_len {us : List Str} {k : Nat} (hk : k ≤ 165) (h : ∀ j < k, cand j ∈ us) : k ≤ us.length := by
  have e : List.range k = (List.range 165).take k := by rw [List.take_range, Nat.min_eq_left hk]
  have nd : ((List.range k).map candL).Nodup := by
    rw [e, List.map_take]
    exact (List.take_sublist _ _).nodup candL_nd
  have := nodup_sub_len (l := (List.range k).map candL) (m := us.map tl) nd fun x hx => by
    obtain ⟨j, hj, rfl⟩ := List.mem_map.mp hx
    exact List.mem_map.mpr ⟨cand j, h j (List.mem_range.mp hj), rfl⟩
  simpa using this
theorem cand_name (k : Nat) : IsName (cand k) := by
  refine ⟨cB.getD (k % 11) 0, [cV.getD (k / 11 % 15) 0], rfl, ?_, ?_, Nat.le_succ 1⟩
  · have h : k % 11 < 11 := Nat.mod_lt _ (by decide)
    have : ∀ j < 11, cB.getD j 0 ∈ tl (Str.ofString "bfhjpqrtvxz") := by decide +kernel
    exact this _ h
  · intro x hx
    simp only [List.mem_singleton] at hx
    subst hx
    have h : k / 11 % 15 < 15 := Nat.mod_lt _ (by decide)
    have : ∀ j < 15, cV.getD j 0 ∈ tl (Str.ofString "abdefilmnostuwy") := by decide +kernel
    exact this _ h
theorem cand_b (m : Nat) : atI (tl (Str.ofString "bfhjpqrtvxz")) ((m : Int) % 11) = some (cB.getD (m % 11) 0) := by
  have h : m % 11 < 11 := Nat.mod_lt _ (by decide)
  have k : ∀ j < 11, (tl (Str.ofString "bfhjpqrtvxz"))[j]? = some (cB.getD j 0) := by decide +kernel
  rw [show ((m : Int) % 11) = ((m % 11 : Nat) : Int) by omega, atI_nat_, k _ h]
theorem cand_v (m : Nat) : atI (tl (Str.ofString "abdefilmnostuwy")) ((m : Int) / 11 % 15) = some (cV.getD (m / 11 % 15) 0) := by
  have h : m / 11 % 15 < 15 := Nat.mod_lt _ (by decide)
  have k : ∀ j < 15, (tl (Str.ofString "abdefilmnostuwy"))[j]? = some (cV.getD j 0) := by decide +kernel
  rw [show ((m : Int) / 11 % 15) = ((m / 11 % 15 : Nat) : Int) by omega, atI_nat_, k _ h]
theorem rep_one {x : Str} : repS x 1 = x := by
  apply ext_tl
  show (List.replicate 1 (tl x)).flatten = tl x
  simp
theorem isName_len {w : Str} (h : IsName w) : (tl w).length ≤ 3 := by
  obtain ⟨c, l, e, _, _, hl⟩ := h
  rw [e, List.length_cons]; omega
theorem isName_cps {w : Str} (h : IsName w) : Cps w := by
  obtain ⟨c, l, e, h1, h2, hl⟩ := h
  refine cps_of fun x hx => ?_
  rw [e] at hx
  have k1 : ∀ x ∈ tl (Str.ofString "bfhjpqrtvxz"), x < 0x110000 := by decide +kernel
  have k2 : ∀ x ∈ tl (Str.ofString "abdefilmnostuwy"), x < 0x110000 := by decide +kernel
  rcases List.mem_cons.mp hx with rfl | hx
  · exact k1 _ h1
  · exact k2 _ (h2 x hx)
theorem inD_strs {w : Str} : ∀ {us : List Str}, inD (.str w) (us.map DV.str) = decide (w ∈ us)
  | [] => by simp [inD]
  | u :: us => by
    have := inD_strs (w := w) (us := us)
    unfold inD at this ⊢
    rw [List.map_cons, List.any_cons, this]
    have e : eqF (.str u) (.str w) = decide (u = w) := rfl
    rw [e]
    by_cases h : u = w
    · subst h; simp
    · have h2 : ¬ w = u := fun q => h q.symm
      simp [h, h2]
theorem flat_strs : ∀ {us : List Str}, (us.map DV.str).all flatD = true
  | [] => rfl
  | u :: us => by
    have := flat_strs (us := us)
    rw [List.map_cons, List.all_cons, this]; rfl
def FN (f : Str) : Prop := f = "" ∨ IsName f
def KN (k : Str) : Prop := k = "num" ∨ k = "yes"
theorem FN.len {f : Str} (h : FN f) : (tl f).length ≤ 3 := by
  rcases h with rfl | h
  · decide
  · exact isName_len h
theorem FN.cps {f : Str} (h : FN f) : Cps f := by
  rcases h with rfl | h
  · exact cps_lit.2.2.2.2.2.2.2.2.2.2.1
  · exact isName_cps h
theorem KN.cps {f : Str} (h : KN f) : Cps f := by
  rcases h with rfl | rfl
  · exact cps_lit.1
  · exact cps_lit.2.2.2.2.2.2.2.2.2.2.2.1
abbrev Nm := Str × Str × Str
abbrev Df := Str × Str × List Str × Str
def encN (x : Nm) : DV := .tup [.str x.1, .str x.2.1, .str x.2.2]
def encDf (x : Df) : DV := .tup [.str x.1, .str x.2.1, .tup (x.2.2.1.map DV.str), .str x.2.2.2]
def OkN (x : Nm) : Prop := KN x.1 ∧ FN x.2.1 ∧ IsName x.2.2
def OkD (x : Df) : Prop := FN x.1 ∧ IsName x.2.1 ∧ x.2.2.1.length ≤ 3 ∧ (∀ k ∈ x.2.2.1, KN k) ∧ (KN x.2.2.2 ∨ x.2.2.2 = "")
def Sgs (sg : List Str) : Prop := sg = ([Str.ofString "+", Str.ofString "-"] : List Str) ∨ sg = ([Str.ofString "+", Str.ofString "-", Str.ofString "*", Str.ofString "/", Str.ofString "mod"] : List Str)
structure CtxE (kvs : List (Key × DV)) (ns : List Nm) (ds : List Df) (sg : List Str) : Prop where
  n : dget kvs (Sum.inr (Str.ofString "names")) = some (.lst (ns.map encN))
  d : dget kvs (Sum.inr (Str.ofString "defs")) = some (.lst (ds.map encDf))
  s : dget kvs (Sum.inr (Str.ofString "signs")) = some (.lst (sg.map DV.str))
  on : ∀ x ∈ ns, OkN x
  od : ∀ x ∈ ds, OkD x
  ln : ns.length ≤ 1000
  ld : ds.length ≤ 1000
  os : Sgs sg
theorem pure_str3 {n : Nat} {xs : List DV} (h : ∀ x ∈ xs, ∃ s, x = .str s ∧ Cps s) : PureS (n + 1) (.tup xs) := .tup fun x hx => by
  obtain ⟨s, rfl, hs⟩ := h x hx
  exact .str _ hs
theorem pure_encN {x : Nm} (h : OkN x) : PureS 1 (encN x) := by
  refine .tup (n := 0) fun y hy => ?_
  simp only [List.mem_cons, List.not_mem_nil, or_false] at hy
  rcases hy with rfl | rfl | rfl
  · exact .str _ h.1.cps
  · exact .str _ h.2.1.cps
  · exact .str _ (isName_cps h.2.2)
theorem pure_encDf {x : Df} (h : OkD x) : PureS 2 (encDf x) := by
  obtain ⟨h1, h2, h3, h4, h5⟩ := h
  refine .tup (n := 1) fun y hy => ?_
  simp only [List.mem_cons, List.not_mem_nil, or_false] at hy
  rcases hy with rfl | rfl | rfl | rfl
  · exact .str _ h1.cps
  · exact .str _ (isName_cps h2)
  · refine .tup (n := 0) fun z hz => ?_
    obtain ⟨k, hk, rfl⟩ := List.mem_map.mp hz
    exact .str _ (h4 k hk).cps
  · rcases h5 with h5 | h5
    · exact .str _ h5.cps
    · rw [h5]; exact .str _ cps_lit.2.2.2.2.2.2.2.2.2.2.1
/-- a list beside the empty one -/
theorem lst_nil {neg : Bool} {n : Nat} {xs : List DV} {O : Own} {Q : DVK} (h : ∀ x ∈ xs, PureS n x) (hn : n ≤ 60) (k : Q (.bl (if neg then !decide (xs = []) else decide (xs = []))) O) : dEqP neg (.lst xs) (.lst []) O Q := by
  obtain ⟨p, e, h1, h2⟩ := pure_py (PureS.lst (n := n) h)
  unfold dEqP
  refine onSome_of e (onSome_of (x := .list []) rfl ⟨shaped_of h1 h2 (by omega), rfl, ?_⟩)
  have e2 : PyData.eqv p (.list []) = decide (xs = []) := by
    cases xs with
    | nil => simp only [toPy, toPys] at e; cases e; rfl
    | cons x xs =>
      simp only [toPy, toPys] at e
      cases e3 : toPy x with
      | none => rw [e3] at e; cases e
      | some q =>
        cases e4 : toPys xs with
        | none => rw [e3, e4] at e; cases e
        | some qs => rw [e3, e4] at e; cases e; rfl
  rw [e2]
  exact k
theorem WF_mono {e : Ex} {n m : Nat} (h : WF n e) (hm : n ≤ m) : WF m e := by
  induction hm with
  | refl => exact h
  | step hm ih => exact WF_up _ _ ih
theorem sgs_bin {sg : List Str} (h : Sgs sg) : (∀ s ∈ sg, s ∈ binOps) ∧ 0 < sg.length ∧ sg.length ≤ 5 ∧ (∀ s ∈ sg, s ∈ (["+", "-", "*", "/", "mod"] : List Str)) := by
  rcases h with rfl | rfl <;> decide +kernel
theorem wfl_app {n : Nat} : ∀ {as bs : List Ex}, WFL n as → WFL n bs → WFL n (as ++ bs)
  | [], bs, _, h => h
  | a :: as, bs, h, h2 => by
    simp only [WFL, List.cons_append] at h ⊢
    exact ⟨h.1, wfl_app h.2 h2⟩
theorem pel_app : ∀ {as bs : List Ex}, PEL as → PEL bs → PEL (as ++ bs)
  | [], bs, _, h => h
  | a :: as, bs, h, h2 => by
    simp only [PEL, List.cons_append] at h ⊢
    exact ⟨h.1, pel_app h.2 h2⟩
theorem wfl_mono {n m : Nat} : ∀ {as : List Ex}, WFL n as → n ≤ m → WFL m as
  | [], _, _ => by simp [WFL]
  | a :: as, h, hm => by
    simp only [WFL] at h ⊢
    exact ⟨WF_mono h.1 hm, wfl_mono h.2 hm⟩
/-- how many rows may be drawn where so many are left -/
def Tn : Nat → Nat
  | 0 => 0
  | n + 1 => 1 + 3 * Tn n
theorem Tn_mono {n m : Nat} (h : n ≤ m) : Tn n ≤ Tn m := by
  induction h with
  | refl => exact Nat.le_refl _
  | step h ih => simp only [Tn]; omega
def encS (x : Str × Str) : DV := .tup [.str x.1, .str x.2]
def BKv (nv kv lv uv dv sv gv : DV) : List (Key × DV) := [(Sum.inr (Str.ofString "names"), nv), (Sum.inr (Str.ofString "kind"), kv), (Sum.inr (Str.ofString "left"), lv), (Sum.inr (Str.ofString "used"), uv), (Sum.inr (Str.ofString "defs"), dv), (Sum.inr (Str.ofString "sets"), sv), (Sum.inr (Str.ofString "signs"), gv)]
section
variable {nv kv lv uv dv sv gv v v2 : DV}
theorem bk_names : dget (BKv nv kv lv uv dv sv gv) (Sum.inr (Str.ofString "names")) = some nv := rfl
theorem bk_kind : dget (BKv nv kv lv uv dv sv gv) (Sum.inr (Str.ofString "kind")) = some kv := rfl
theorem bk_left : dget (BKv nv kv lv uv dv sv gv) (Sum.inr (Str.ofString "left")) = some lv := rfl
theorem bk_used : dget (BKv nv kv lv uv dv sv gv) (Sum.inr (Str.ofString "used")) = some uv := rfl
theorem bk_defs : dget (BKv nv kv lv uv dv sv gv) (Sum.inr (Str.ofString "defs")) = some dv := rfl
theorem bk_sets : dget (BKv nv kv lv uv dv sv gv) (Sum.inr (Str.ofString "sets")) = some sv := rfl
theorem bk_signs : dget (BKv nv kv lv uv dv sv gv) (Sum.inr (Str.ofString "signs")) = some gv := rfl
theorem bk_pnames : dput (BKv nv kv lv uv dv sv gv) (Sum.inr (Str.ofString "names")) v = BKv v kv lv uv dv sv gv := rfl
theorem bk_pleft : dput (BKv nv kv lv uv dv sv gv) (Sum.inr (Str.ofString "left")) v = BKv nv kv v uv dv sv gv := rfl
theorem bk_psets : dput (BKv nv kv lv uv dv sv gv) (Sum.inr (Str.ofString "sets")) v = BKv nv kv lv uv dv v gv := rfl
theorem bk_upd : dmerge (BKv nv kv lv uv dv sv gv) (dmerge [] [(Sum.inr (Str.ofString "names"), v), (Sum.inr (Str.ofString "sets"), v2)]) = BKv v kv lv uv dv v2 gv := rfl
theorem bk_len : (BKv nv kv lv uv dv sv gv).length = 7 := rfl
theorem bk_len2 : (dmerge [] [(Sum.inr (Str.ofString "names"), v), (Sum.inr (Str.ofString "sets"), v2)] : List (Key × DV)).length = 2 := rfl
end
structure BOk (ns : List Nm) (kd : Str) (dfs : List Df) (ss : List (Str × Str)) (sg : List Str) (us : List Str) : Prop where
  on : ∀ x ∈ ns, OkN x
  od : ∀ x ∈ dfs, OkD x
  os : ∀ x ∈ ss, KN x.1 ∧ IsName x.2
  ln : ns.length ≤ us.length + 500
  ls : ss.length ≤ us.length + 500
  ld : dfs.length ≤ 500
  sg : Sgs sg
  kd : KN kd ∨ kd = ""
theorem BOk.more {ns : List Nm} {kd : Str} {dfs : List Df} {ss : List (Str × Str)} {sg us us' : List Str} (h : BOk ns kd dfs ss sg us) (hl : us.length ≤ us'.length) : BOk ns kd dfs ss sg us' :=
  ⟨h.on, h.od, h.os, by have := h.ln; omega, by have := h.ls; omega, h.ld, h.sg, h.kd⟩
structure BSt (O : Own) (a c u : Addr) (dc : Cell) (ns : List Nm) (kd : Str) (l : Int) (dfs : List Df) (ss : List (Str × Str)) (sg : List Str) (us : List Str) : Prop where
  ac : a ≠ c
  au : a ≠ u
  cu : c ≠ u
  ha : O a = some dc
  hd : Dice dc
  hc : O c = some (.dK (BKv (.lst (ns.map encN)) (.str kd) (.int l) (.ref u) (.lst (dfs.map encDf)) (.lst (ss.map encS)) (.lst (sg.map DV.str))))
  hu : O u = some (.lst (us.map DV.str))
  ok : BOk ns kd dfs ss sg us
section
variable {O O' : Own} {a c u : Addr} {dc dc' : Cell} {ns : List Nm} {kd : Str} {l : Int} {dfs : List Df} {ss : List (Str × Str)} {sg us : List Str}
theorem BSt.dice (h : BSt O a c u dc ns kd l dfs ss sg us) (hd : Dice dc') : BSt (oset O a dc') a c u dc' ns kd l dfs ss sg us :=
  ⟨h.ac, h.au, h.cu, oset_same, hd, by rw [oset_ne (Ne.symm h.ac)]; exact h.hc, by rw [oset_ne (Ne.symm h.au)]; exact h.hu, h.ok⟩
theorem BSt.used (h : BSt O a c u dc ns kd l dfs ss sg us) (us' : List Str) (hl : us.length ≤ us'.length) : BSt (oset O u (.lst (us'.map DV.str))) a c u dc ns kd l dfs ss sg us' :=
  ⟨h.ac, h.au, h.cu, by rw [oset_ne h.au]; exact h.ha, h.hd, by rw [oset_ne h.cu]; exact h.hc, oset_same, h.ok.more hl⟩
theorem BSt.ctx (h : BSt O a c u dc ns kd l dfs ss sg us) {ns' : List Nm} {l' : Int} {ss' : List (Str × Str)} (hk : BOk ns' kd dfs ss' sg us) :
    BSt (oset O c (.dK (BKv (.lst (ns'.map encN)) (.str kd) (.int l') (.ref u) (.lst (dfs.map encDf)) (.lst (ss'.map encS)) (.lst (sg.map DV.str))))) a c u dc ns' kd l' dfs ss' sg us :=
  ⟨h.ac, h.au, h.cu, by rw [oset_ne h.ac]; exact h.ha, h.hd, oset_same, by rw [oset_ne (Ne.symm h.cu)]; exact h.hu, hk⟩
theorem BSt.garb (h : BSt O a c u dc ns kd l dfs ss sg us) {p : Addr} {x : Cell} (hp : O p = none) : BSt (oset O p x) a c u dc ns kd l dfs ss sg us :=
  ⟨h.ac, h.au, h.cu, by rw [oset_ne (ne_of h.ha hp)]; exact h.ha, h.hd, by rw [oset_ne (ne_of h.hc hp)]; exact h.hc, by rw [oset_ne (ne_of h.hu hp)]; exact h.hu, h.ok⟩
theorem BSt.e (h : BSt O a c u dc ns kd l dfs ss sg us) (hl : us.length ≤ 150) : CtxE (BKv (.lst (ns.map encN)) (.str kd) (.int l) (.ref u) (.lst (dfs.map encDf)) (.lst (ss.map encS)) (.lst (sg.map DV.str))) ns dfs sg :=
  ⟨rfl, rfl, rfl, h.ok.on, h.ok.od, by have := h.ok.ln; omega, by have := h.ok.ld; omega, h.ok.sg⟩
end
theorem wf_six {e : Ex} (h : WF (2 + 1) e) : WF six e := by rw [six_eq]; exact h
theorem pure_encS {x : Str × Str} (h : KN x.1 ∧ IsName x.2) : PureS 1 (encS x) := by
  refine .tup (n := 0) fun y hy => ?_
  simp only [List.mem_cons, List.not_mem_nil, or_false] at hy
  rcases hy with rfl | rfl
  · exact .str _ h.1.cps
  · exact .str _ (isName_cps h.2)
theorem wfrs_app {n : Nat} : ∀ {as bs : List Rw}, WFRs n as → WFRs n bs → WFRs n (as ++ bs)
  | [], bs, _, h => h
  | a :: as, bs, h, h2 => by
    simp only [WFRs, List.cons_append] at h ⊢
    exact ⟨h.1, wfrs_app h.2 h2⟩
theorem prs_app : ∀ {as bs : List Rw}, PRs as → PRs bs → PRs (as ++ bs)
  | [], bs, _, h => h
  | a :: as, bs, h, h2 => by
    simp only [PRs, List.cons_append] at h ⊢
    exact ⟨h.1, prs_app h.2 h2⟩
theorem cRs_app : ∀ {as bs : List Rw}, cRs (as ++ bs) = cRs as + cRs bs
  | [], bs => by simp [cRs]
  | a :: as, bs => by
    simp only [cRs, List.cons_append]
    rw [cRs_app]; omega
theorem cR_pos : ∀ r : Rw, 1 ≤ cR r
  | .lt _ _ _ => by simp [cR]
  | .one _ _ => by simp [cR]
  | .iff _ _ _ => by simp only [cR]; omega
  | .whl _ _ => by simp only [cR]; omega
theorem cRs_ge : ∀ rs : List Rw, rs.length ≤ cRs rs
  | [] => by simp [cRs]
  | r :: rs => by
    have := cRs_ge rs
    have := cR_pos r
    simp only [cRs, List.length_cons]; omega
end W1

set_option Elab.async false
set_option linter.all false
set_option maxRecDepth 100000
namespace W1
open PySem PySem.Spec PyProof.Rows L2 TL DL
/-! ### files, drawn -/
/-- what is planned to be told -/
structure Pl where
  w : Str
  out : Bool
  n : Str
  ps : List (Str × Str)
  kd : Str
/-- what may be named -/
structure At where
  w : Str
  f : Str
  n : Str
  ps : List (Str × Str)
  kd : Str
def encPl (p : Pl) : DV := .tup [.str p.w, .non, .bl p.out, .str p.n, .tup (p.ps.map encP), .str p.kd]
def encAt (p : At) : DV := .tup [.str p.w, .str p.f, .str p.n, .tup (p.ps.map encP), .str p.kd]
def OkP (ps : List (Str × Str)) : Prop := ps.length ≤ 3 ∧ ∀ q ∈ ps, IsName q.1 ∧ KN q.2
def KdW (w kd : Str) : Prop := ((w = "const" ∨ w = "keep") ∧ KN kd) ∨ (w = "def" ∧ (KN kd ∨ kd = ""))
def OkPl (p : Pl) : Prop := IsName p.n ∧ OkP p.ps ∧ KdW p.w p.kd
def OkAt (p : At) : Prop := FN p.f ∧ IsName p.n ∧ OkP p.ps ∧ KdW p.w p.kd
theorem KdW.kn {w kd : Str} (h : KdW w kd) (hw : w ≠ "def") : KN kd := by
  rcases h with ⟨_, h⟩ | ⟨h, _⟩
  · exact h
  · exact absurd h hw
theorem KdW.any {w kd : Str} (h : KdW w kd) : KN kd ∨ kd = "" := by
  rcases h with ⟨_, h⟩ | ⟨_, h⟩
  · exact .inl h
  · exact h
theorem OkP.le {ps : List (Str × Str)} (h : OkP ps) : ∀ p ∈ ps, (tl p.1).length ≤ 10 ∧ (tl p.2).length ≤ 3 := fun p hp => by
  obtain ⟨h1, h2⟩ := h.2 p hp
  refine ⟨by have := isName_len h1; omega, ?_⟩
  rcases h2 with h2 | h2 <;> rw [h2] <;> decide
def toN (x : At) : Nm := (x.kd, x.f, x.n)
def toDf (x : At) : Df := (x.f, x.n, x.ps.map (·.2), x.kd)
def toS (x : At) : Str × Str := (x.kd, x.n)
def pN (q : Str × Str) : Nm := (q.2, Str.ofString "", q.1)
def pS (q : Str × Str) : Str × Str := (q.2, q.1)
theorem okN_at {x : At} (h : OkAt x) (hw : x.w ≠ "def") : OkN (toN x) := ⟨h.2.2.2.kn hw, h.1, h.2.1⟩
theorem okD_at {x : At} (h : OkAt x) : OkD (toDf x) := ⟨h.1, h.2.1, by rw [show (toDf x).2.2.1 = x.ps.map (·.2) from rfl, List.length_map]; exact h.2.2.1.1, fun k hk => by
  obtain ⟨q, hq, rfl⟩ := List.mem_map.mp hk
  exact (h.2.2.1.2 q hq).2, h.2.2.2.any⟩
theorem okN_p {q : Str × Str} (h : IsName q.1 ∧ KN q.2) : OkN (pN q) := ⟨h.2, .inl rfl, h.1⟩
def CKv (nv dv sv : DV) : List (Key × DV) := [(Sum.inr (Str.ofString "names"), nv), (Sum.inr (Str.ofString "defs"), dv), (Sum.inr (Str.ofString "signs"), sv)]
def CKv0 (nv dv : DV) : List (Key × DV) := [(Sum.inr (Str.ofString "names"), nv), (Sum.inr (Str.ofString "defs"), dv)]
def B4v (nv kv lv uv : DV) : List (Key × DV) := [(Sum.inr (Str.ofString "names"), nv), (Sum.inr (Str.ofString "kind"), kv), (Sum.inr (Str.ofString "left"), lv), (Sum.inr (Str.ofString "used"), uv)]
def B5v (nv kv lv uv dv : DV) : List (Key × DV) := B4v nv kv lv uv ++ [(Sum.inr (Str.ofString "defs"), dv)]
def B6v (nv kv lv uv dv sv : DV) : List (Key × DV) := B5v nv kv lv uv dv ++ [(Sum.inr (Str.ofString "sets"), sv)]
section
variable {nv kv lv uv dv sv gv v v2 : DV}
theorem ck_disp : dmerge [] [(Sum.inr (Str.ofString "names"), nv), (Sum.inr (Str.ofString "defs"), dv)] = CKv0 nv dv := rfl
theorem ck_psigns : dput (CKv0 nv dv) (Sum.inr (Str.ofString "signs")) v = CKv nv dv v := rfl
theorem ck_names : dget (CKv nv dv sv) (Sum.inr (Str.ofString "names")) = some nv := rfl
theorem ck_defs : dget (CKv nv dv sv) (Sum.inr (Str.ofString "defs")) = some dv := rfl
theorem ck_signs : dget (CKv nv dv sv) (Sum.inr (Str.ofString "signs")) = some sv := rfl
theorem ck_pnames : dput (CKv nv dv sv) (Sum.inr (Str.ofString "names")) v = CKv v dv sv := rfl
theorem ck_len0 : (CKv0 nv dv).length = 2 := rfl
theorem ck_len : (CKv nv dv sv).length = 3 := rfl
theorem b4_disp : dmerge [] [(Sum.inr (Str.ofString "names"), nv), (Sum.inr (Str.ofString "kind"), kv), (Sum.inr (Str.ofString "left"), lv), (Sum.inr (Str.ofString "used"), uv)] = B4v nv kv lv uv := rfl
theorem b4_put : dput (B4v nv kv lv uv) (Sum.inr (Str.ofString "defs")) v = B5v nv kv lv uv v := rfl
theorem b5_put : dput (B5v nv kv lv uv dv) (Sum.inr (Str.ofString "sets")) v = B6v nv kv lv uv dv v := rfl
theorem b6_sets : dget (B6v nv kv lv uv dv sv) (Sum.inr (Str.ofString "sets")) = some sv := rfl
theorem b6_upd : dmerge (B6v nv kv lv uv dv sv) (dmerge [] [(Sum.inr (Str.ofString "sets"), v), (Sum.inr (Str.ofString "signs"), v2)]) = BKv nv kv lv uv dv v v2 := rfl
theorem b4_len : (B4v nv kv lv uv).length = 4 := rfl
theorem b5_len : (B5v nv kv lv uv dv).length = 5 := rfl
theorem b6_len : (B6v nv kv lv uv dv sv).length = 6 := rfl
theorem b6_len2 : (dmerge [] [(Sum.inr (Str.ofString "sets"), v), (Sum.inr (Str.ofString "signs"), v2)] : List (Key × DV)).length = 2 := rfl
end
theorem cutD_two {a b : DV} {r : List DV} : DL.cutD (a :: b :: r) none (some 2) = [a, b] := by
  unfold DL.cutD
  have e1 : HT.sIx (a :: b :: r).length 0 none = 0 := rfl
  have e2 : HT.sIx (a :: b :: r).length (a :: b :: r).length (some 2) = 2 := by
    have : HT.sIx (a :: b :: r).length (a :: b :: r).length (some 2) = min 2 (r.length + 1 + 1) := rfl
    rw [this]; omega
  rw [e1, e2]; rfl
def encD0 (x : At) : DV := .tup [.str x.f, .str x.n, .tup (x.ps.map encP), .str x.kd]
theorem keep_at {O : Own} {p : Addr} {X : Cell} (hp : O p = none) {x : Addr} {c : Cell} (h : O x = some c) : oset O p X x = some c := by rw [oset_ne (ne_of h hp)]; exact h
theorem sgs5 : Sgs [Str.ofString "+", Str.ofString "-", Str.ofString "*", Str.ofString "/", Str.ofString "mod"] := .inr rfl
theorem sgs2 : Sgs [Str.ofString "+", Str.ofString "-"] := .inl rfl
theorem tn4 : Tn (Int.toNat 4) = 40 := rfl
theorem rep1 {α : Type} {xs : List α} : (List.replicate (Int.toNat 1) xs).flatten = xs := by
  show (List.replicate 1 xs).flatten = xs
  simp
theorem rep0 {α : Type} {xs : List α} : (List.replicate (Int.toNat 0) xs).flatten = [] := rfl
theorem callsp_gen {sp : DSp} {ds : List DV} {O : Own} {Q : DVK} {E : DXK} (P : Own → Prop) (h : P O) (k : ∀ O', P O' → callsp sp ds O' Q E) : callsp sp ds O Q E := k O h
theorem put3 {O : Own} {p q x : Addr} {X Y Z c : Cell} (hq : oset O p X q = none) (hx : x ≠ p) (h : O x = some c) : oset (oset (oset O p X) q Y) p Z x = some c := by
  rw [oset_ne hx]; exact keep_at hq (by rw [oset_ne hx]; exact h)
theorem Fr.trans2 {O O3 O4 : Own} {as bs : List Addr} (h : Fr O O3 as) (h2 : Fr O3 O4 (as ++ bs)) (hb : ∀ b ∈ bs, O b = none) : Fr O O4 as := fun b hbn ho => by
  have e := h b hbn ho
  rw [h2 b (fun q => ?_) (by rw [e]; exact ho), e]
  rcases List.mem_append.mp q with q | q
  · exact hbn q
  · exact ho (hb b q)
/-! ### the house -/
def encU (u : Str) : DV := .tup [.non, .str u]
def encFl (e : Str × List Str × List Td) : Key × DV := (Sum.inr e.1, .tup [.tup (e.2.1.map encU), .tup (e.2.2.map encT)])
def encFa (e : Str × List At) : Key × DV := (Sum.inr e.1, .lst (e.2.map encAt))
def OkF (e : Str × List Str × List Td) : Prop := e.2.1.length ≤ 3 ∧ (∀ u ∈ e.2.1, IsName u) ∧ e.2.2.length ≤ 4 ∧ ∀ t ∈ e.2.2, WFT t
def OkA (e : Str × List At) : Prop := e.2.length ≤ 4 ∧ ∀ t ∈ e.2, OkAt t
structure HSt (O : Own) (a pF pA pL : Addr) (dc : Cell) (es : List (Str × List Str × List Td)) (fa : List (Str × List At)) (fs : List Str) : Prop where
  aF : a ≠ pF
  aA : a ≠ pA
  aL : a ≠ pL
  FA : pF ≠ pA
  FL : pF ≠ pL
  AL : pA ≠ pL
  ha : O a = some dc
  hd : Dice dc
  hF : O pF = some (.dK (es.map encFl))
  hA : O pA = some (.dK (fa.map encFa))
  hL : O pL = some (.lst (fs.map DV.str))
section
variable {O O' : Own} {a pF pA pL : Addr} {dc dc' : Cell} {es es' : List (Str × List Str × List Td)} {fa fa' : List (Str × List At)} {fs fs' : List Str}
theorem HSt.dice (h : HSt O a pF pA pL dc es fa fs) (hd : Dice dc') : HSt (oset O a dc') a pF pA pL dc' es fa fs :=
  ⟨h.aF, h.aA, h.aL, h.FA, h.FL, h.AL, oset_same, hd, by rw [oset_ne (Ne.symm h.aF)]; exact h.hF, by rw [oset_ne (Ne.symm h.aA)]; exact h.hA, by rw [oset_ne (Ne.symm h.aL)]; exact h.hL⟩
theorem HSt.sets (h : HSt O a pF pA pL dc es fa fs) {x : Addr} {X : Cell} (hx : x ∉ [a, pF, pA, pL]) : HSt (oset O x X) a pF pA pL dc es fa fs := by
  simp only [List.mem_cons, List.not_mem_nil, or_false, not_or] at hx
  obtain ⟨h1, h2, h3, h4⟩ := hx
  exact ⟨h.aF, h.aA, h.aL, h.FA, h.FL, h.AL, by rw [oset_ne (Ne.symm h1)]; exact h.ha, h.hd, by rw [oset_ne (Ne.symm h2)]; exact h.hF, by rw [oset_ne (Ne.symm h3)]; exact h.hA, by rw [oset_ne (Ne.symm h4)]; exact h.hL⟩
theorem HSt.dels (h : HSt O a pF pA pL dc es fa fs) {x : Addr} (hx : x ∉ [a, pF, pA, pL]) : HSt (odel O x) a pF pA pL dc es fa fs := by
  simp only [List.mem_cons, List.not_mem_nil, or_false, not_or] at hx
  obtain ⟨h1, h2, h3, h4⟩ := hx
  exact ⟨h.aF, h.aA, h.aL, h.FA, h.FL, h.AL, by rw [odel_ne (Ne.symm h1)]; exact h.ha, h.hd, by rw [odel_ne (Ne.symm h2)]; exact h.hF, by rw [odel_ne (Ne.symm h3)]; exact h.hA, by rw [odel_ne (Ne.symm h4)]; exact h.hL⟩
theorem HSt.new (h : HSt O a pF pA pL dc es fa fs) {x : Addr} (hx : O x = none) : x ∉ [a, pF, pA, pL] := by
  have h1 := ne_of h.ha hx
  have h2 := ne_of h.hF hx
  have h3 := ne_of h.hA hx
  have h4 := ne_of h.hL hx
  simp [Ne.symm h1, Ne.symm h2, Ne.symm h3, Ne.symm h4]
theorem HSt.files (h : HSt O a pF pA pL dc es fa fs) : HSt (oset O pL (.lst (fs'.map DV.str))) a pF pA pL dc es fa fs' :=
  ⟨h.aF, h.aA, h.aL, h.FA, h.FL, h.AL, by rw [oset_ne h.aL]; exact h.ha, h.hd, by rw [oset_ne h.FL]; exact h.hF, by rw [oset_ne h.AL]; exact h.hA, oset_same⟩
theorem HSt.face (h : HSt O a pF pA pL dc es fa fs) : HSt (oset O pA (.dK (fa'.map encFa))) a pF pA pL dc es fa' fs :=
  ⟨h.aF, h.aA, h.aL, h.FA, h.FL, h.AL, by rw [oset_ne h.aA]; exact h.ha, h.hd, by rw [oset_ne h.FA]; exact h.hF, oset_same, by rw [oset_ne (Ne.symm h.AL)]; exact h.hL⟩
theorem HSt.find (h : HSt O a pF pA pL dc es fa fs) : HSt (oset O pF (.dK (es'.map encFl))) a pF pA pL dc es' fa fs :=
  ⟨h.aF, h.aA, h.aL, h.FA, h.FL, h.AL, by rw [oset_ne h.aF]; exact h.ha, h.hd, oset_same, by rw [oset_ne (Ne.symm h.FA)]; exact h.hA, by rw [oset_ne (Ne.symm h.FL)]; exact h.hL⟩
theorem HSt.fr (h : HSt O a pF pA pL dc es fa fs) (f : Fr O O' [a]) (ha : O' a = some dc') (hd : Dice dc') : HSt O' a pF pA pL dc' es fa fs :=
  ⟨h.aF, h.aA, h.aL, h.FA, h.FL, h.AL, ha, hd, f.at h.hF (by simp [Ne.symm h.aF]), f.at h.hA (by simp [Ne.symm h.aA]), f.at h.hL (by simp [Ne.symm h.aL])⟩
end
theorem dput_new {es : List (Key × DV)} {k : Key} {v : DV} (h : ∀ e ∈ es, e.1 ≠ k) : dput es k v = es ++ [(k, v)] := by
  unfold dput
  have e : es.any (fun kv => decide (kv.1 = k)) = false := by
    rw [List.any_eq_false]
    intro x hx
    simpa using h x hx
  rw [if_neg (by rw [e]; decide)]
theorem dget_fa {f : Str} : ∀ {fa : List (Str × List At)}, f ∈ fa.map (·.1) → ∃ ats, (f, ats) ∈ fa ∧ dget (fa.map encFa) (Sum.inr f) = some (.lst (ats.map encAt))
  | [], h => by cases h
  | (g, ats) :: fa, h => by
    by_cases e : g = f
    · subst e
      refine ⟨ats, List.mem_cons_self, ?_⟩
      unfold dget encFa
      simp
    · have h2 : f ∈ fa.map (·.1) := by
        rcases List.mem_cons.mp h with h | h
        · exact absurd h.symm e
        · exact h
      obtain ⟨b, h3, h4⟩ := dget_fa h2
      refine ⟨b, List.mem_cons_of_mem _ h3, ?_⟩
      unfold dget at h4 ⊢
      rw [List.map_cons, List.find?_cons_of_neg]
      · exact h4
      · simp only [encFa, decide_eq_true_eq]
        intro q; exact e (Sum.inr.inj (of_decide_eq_true q))
theorem cutD_three {a b c : DV} {r : List DV} : DL.cutD (a :: b :: c :: r) (some 3) none = r := by
  unfold DL.cutD
  have e1 : HT.sIx (a :: b :: c :: r).length 0 (some 3) = 3 := by
    have : HT.sIx (a :: b :: c :: r).length 0 (some 3) = min 3 (r.length + 1 + 1 + 1) := rfl
    rw [this]; omega
  have e2 : HT.sIx (a :: b :: c :: r).length (a :: b :: c :: r).length none = (a :: b :: c :: r).length := rfl
  rw [e1, e2]
  show List.take _ r = r
  exact List.take_of_length_le (by simp)
def plA (f : Str) (p : Pl) : At := ⟨p.w, f, p.n, p.ps, p.kd⟩
theorem okA_pl {f : Str} {p : Pl} (hf : FN f) (h : OkPl p) : OkAt (plA f p) := ⟨hf, h.1, h.2.1, h.2.2⟩
theorem dget_fl {f : Str} : ∀ {es : List (Str × List Str × List Td)}, f ∈ es.map (·.1) → ∃ us ts, (f, us, ts) ∈ es ∧ dget (es.map encFl) (Sum.inr f) = some (.tup [.tup (us.map encU), .tup (ts.map encT)])
  | [], h => by cases h
  | (g, us, ts) :: fa, h => by
    by_cases e : g = f
    · subst e
      refine ⟨us, ts, List.mem_cons_self, ?_⟩
      unfold dget encFl
      simp
    · have h2 : f ∈ fa.map (·.1) := by
        rcases List.mem_cons.mp h with h | h
        · exact absurd h.symm e
        · exact h
      obtain ⟨b, c, h3, h4⟩ := dget_fl h2
      refine ⟨b, c, List.mem_cons_of_mem _ h3, ?_⟩
      unfold dget at h4 ⊢
      rw [List.map_cons, List.find?_cons_of_neg]
      · exact h4
      · simp only [encFl, decide_eq_true_eq]
        intro q; exact e (Sum.inr.inj (of_decide_eq_true q))
theorem allTx_app (xs ys : List Td) : allTx (xs ++ ys) = allTx xs ++ allTx ys := by
  induction xs with
  | nil => rfl
  | cons x xs ih => simp only [List.cons_append, allTx, ih, List.append_assoc]
theorem rep_out {b : Bool} : repS (Str.ofString "out ") (if b = true then 1 else 0) = outT b := by
  cases b
  · rfl
  · exact rep_one
theorem hd_eq {o n j k : Str} : o ++ Str.ofString "def" ++ Str.ofString " " ++ n ++ Str.ofString "(" ++ j ++ Str.ofString ")" ++ k = o ++ Str.ofString "def " ++ n ++ Str.ofString "(" ++ j ++ Str.ofString ")" ++ k := by
  apply ext_tl; simp only [tl_append, List.append_assoc, show tl (Str.ofString "def ") = tl (Str.ofString "def") ++ tl (Str.ofString " ") from rfl]
theorem rep_zero {x : Str} : repS x 0 = Str.ofString "" := rfl
end W1

set_option Elab.async false
set_option linter.all false
set_option maxRecDepth 100000
set_option maxHeartbeats 1000000
/-! DExc: own exceptions with fields: raised, caught, read. -/
namespace DL
open PySem PySem.Spec PyProof.Rows L2 TL
variable {XW : DXK}
/-- B.__init__(self, ..), B an own class over ValueError without an own one -/
theorem pe_binit {X : Cx} {B : Addr} {mc : Value} {x : Str} {e : Expr} {es : List Expr} {ta : TA} {p1 p2 pos : Pos} {pl : Sem Bool} (hg : Gl X x) (hm : X.mg x = some (.ref B)) (r : ClX.CRead X.K B mc)
    (vV : PySem.W.findCls X.K (.ref B) mc "__init__" = some (.val (.builtin "ValueError.__init__"))) (ha : PA X (e :: es) ta) (hdb : (x == ("__debug__" : Str)) = false := by decide)
    (hc : eval (.Call (.Attribute (.Name x p1) "__init__" p2) (e :: es) [] pos) X.env = (do
      let ov ← eval (.Name x p1) X.env
      standAt p2.atName
      let (f, first) ← holding [ov] (getMethod ov "__init__" pl)
      callWith pos f first (backTo pos (starEach (e :: es) X.env)) (backToKw pos (keywordEach [] X.env))) := by rfl)
    (he : starEach (e :: es) X.env = (false, eval e X.env) :: starEach es X.env := by rfl) (hpl : (backTo pos (starEach es X.env)).any (·.1) = false := by rfl) :
    PE X (.Call (.Attribute (.Name x p1) "__init__" p2) (e :: es) [] pos) (tVeI X.K ta) := by
  refine ⟨fun pins s σ H Q I h => ?_⟩
  refine PySem.W.methodCall_KW (ld_glob I hg hm ?_ hdb) hc
  refine PySem.W.method_cls I.kIn r.ga (PySem.W.cls_value I.kIn r.rd vV (by decide +kernel) ?_)
  show wpAny _ _ (callWith pos (Value.builtin "ValueError.__init__") [] (backTo pos (starEach (e :: es) X.env)) []) _ _ _
  refine PyProof.Rows.callWith_method1 (thn (ha.run pos pins _ σ H _ (I.tok _) h) fun us s1 ⟨vs, H1, I1, r1, a, C, ws, ev, hl, T, ea, q⟩ => ?_) he hpl
  subst ev
  cases r1 with
  | @cons _ u0 _ ur ra rw' =>
    obtain rfl : u0 = Value.ref a := ra
    have hlen : ur.length ≤ sizeLine := by
      rw [← Paired.length rw', sizeLine_eq]
      omega
    exact oinit_ok T I1 ea hlen fun s' J => ⟨.non, H1, J, rfl, q⟩
/-- the promise of an own exception's __init__ that lays four fields -/
def spFault (C : Addr) (n1 n2 n3 n4 : Str) : Sp := fun vs H Q _ => ∃ (a : Addr) (v1 v2 v3 v4 : V), vs = [.ref a, v1, v2, v3, v4] ∧ H a = some (exo a C none) ∧
  ∀ dx, H dx = none → dx ≠ a → ∀ H', (∀ b, b ≠ a → b ≠ dx → H' b = H b) → H' a = some (exo a C (some dx)) → H' dx = some (exd dx [(n4, v4), (n3, v3), (n2, v2), (n1, v1)]) → Q .non H'
theorem RS0.xd {K : PySem.W.Frag} {F H : Hp} {O : Own} {dx : Addr} {o : HO} (r : RS0 K F O H) (hf : F dx = none) (ho : O dx = none) : RS0 K F O (upd H dx o) := by
  refine ⟨fun b u e => ?_, fun b c e => ?_⟩
  · have hb : b ≠ dx := fun z => by subst z; rw [hf] at e; cases e
    rw [upd_ne hb]; exact r.fro b u e
  · have hb : b ≠ dx := fun z => by subst z; rw [ho] at e; cases e
    obtain ⟨h1, h2⟩ := r.own b c e
    exact ⟨h1, h2.mono (Sub.refl _) (upd_ne hb)⟩
def dRaise (XW : DXK) (C : Addr) (n1 n2 n3 n4 : Str) (t : DTA) (D : DEnds) (S : DSt) (O : Own) : Prop := t S O fun ds O1 => ∃ d1 d2 d3 d4, ds = [d1, d2, d3, d4] ∧ XW C (some [(n4, d4), (n3, d3), (n2, d2), (n1, d1)]) O1
theorem Reps.four {K : KG} {F : Hp} {vs : List V} {a b c d : DV} (r : Reps K F vs [a, b, c, d]) : ∃ w x y z, vs = [w, x, y, z] ∧ Rep K F w a ∧ Rep K F x b ∧ Rep K F y c ∧ Rep K F z d := by
  cases r with | cons h1 r => cases r with | cons h2 r => cases r with | cons h3 r => cases r with | cons h4 r => cases r; exact ⟨_, _, _, _, rfl, h1, h2, h3, h4⟩
theorem liftRaise {K : KG} {C : Addr} {n1 n2 n3 n4 : Str} {t : DTA} {σ : L2.St} {H : Hp} {VD : Ends} (hw : ∀ C fs O, XW C fs O → K.ed C fs O) (h : liftS K (dRaise XW C n1 n2 n3 n4 t) VD σ H) :
    tMkO C (spFault C n1 n2 n3 n4) [] (liftA K t) σ H fun cls d H' => K.e cls d H' := by
  obtain ⟨F, O, S, D, rs, sr, h, fin⟩ := h
  refine ⟨F, O, S, _, rs, sr, h, fun ds O1 h1 vs H1 F1 s1 r1 => ?_⟩
  obtain ⟨d1, d2, d3, d4, rfl, q⟩ := h1
  obtain ⟨v1, v2, v3, v4, rfl, r1, r2, r3, r4⟩ := r1.four
  refine ⟨by simp, fun a ha => ⟨a, v1, v2, v3, v4, rfl, upd_same, fun dx hdx ne H' hk e1 e2 => ?_⟩⟩
  rw [upd_ne ne] at hdx
  refine ⟨rfl, dx, _, e1, e2, hdx, ?_⟩
  have eH : upd (del H' a) dx (.xd [(n4, v4), (n3, v3), (n2, v2), (n1, v1)]) = upd H1 dx (.xd [(n4, v4), (n3, v3), (n2, v2), (n1, v1)]) := by
    funext b
    by_cases hb : b = dx
    · subst hb; rw [upd_same, upd_same]
    · rw [upd_ne hb, upd_ne hb]
      by_cases hb2 : b = a
      · subst hb2; rw [del_same, ha]
      · rw [del_ne hb2, hk b hb2 hb, upd_ne hb2]
  rw [eH]
  obtain ⟨hf, ho⟩ := s1.rs.free hdx
  refine s1.rs.xf C _ O1 (hw _ _ _ q) (some dx) _ F1 ⟨Sub.refl _, fun b u b1 b2 => ⟨?_, b2⟩, fun _ _ _ _ h => h⟩ (s1.rs.z.xd hf ho) ⟨dx, _, rfl, upd_same, hf, ho, ?_⟩ fun b u e e2 => ?_
  · rw [upd_ne (fun z => by subst z; rw [hdx] at b1; cases b1)]; exact b1
  · exact .cons ⟨rfl, r4⟩ (.cons ⟨rfl, r3⟩ (.cons ⟨rfl, r2⟩ (.cons ⟨rfl, r1⟩ .nil)))
  · cases e; rw [hdx] at e2; cases e2
section
variable {X : Cx} {x n : Str} {e : Expr} {es : List Expr} {t : DTA} {p pos pos' np : Pos} {C fI : Addr} {fd : FuncData} {ps : List Str} {k : Nat} {n1 n2 n3 n4 : Str}
/-- raise C(e, ..) -/
theorem ds_raise (T : OexC X.K C) (iC : PySem.W.findIn X.K (.ref C) "__init__" = some (some (.ref fI))) (tI : PySem.W.typeIn X.K (.ref fI) = some (.type "function"))
    (F1 : FnOk X.prog X.w X.K X.mg X.base CX0 k fI fd ps (spFault C n1 n2 n3 n4)) (hr : Room (k + 1) X.A) (hb : Binds X.K fd ps []) (hm : X.mg x = some (.ref C)) (ha : DA XW X (e :: es) t) (hc : X.calm = true := by rfl) (hg : Gl X x := by rfl)
    (hdb : (x == ("__debug__" : Str)) = false := by decide) (he : starEach (e :: es) X.env = (false, eval e X.env) :: starEach es X.env := by rfl) (hpl : (backTo pos (starEach es X.env)).any (·.1) = false := by rfl) (hst : X.stack = X.env :: X.outer := by rfl) :
    DS XW X (.Raise (some (.Call (.Name x p) (e :: es) [] pos)) none pos') (dRaise XW C n1 n2 n3 n4 t) :=
  ⟨fun g0 hg0 => PS_imp (ps_raise hc (hg0.takes hst) (pmk_oex T iC tI F1 hr hb .nil pass0 hg hm (ha.pa g0 hg0) hdb he hpl)) fun _ _ _ h => liftRaise (K := kg X g0) hg0.2 h⟩
/-- try: body, except C as n: suite (the suite gives back) -/
def dTryAs (i n : Nat) (C : Addr) (tb : DXK → DTS) (ts : Addr → Addr → DTS) (D : DEnds) (S : DSt) (O : Own) : Prop := ∃ XWb : DXK, tb XWb D S O ∧ ∀ C' fs O', XWb C' fs O' → C' = C ∧ ∃ l, fs = some l ∧
  ∀ a dd, O' a = none → O' dd = none → ts a dd { nx := fun _ _ => False, rt := D.rt } ((List.replicate n none).set i (some (.ref a))) (oset O' dd (.xd l))
theorem takes_all {X : Cx} {W : WX} (tk : Takes X W) : Takes X (fun cls d _ H => ∀ σ, σ.length = X.N.length → W cls d σ H) := fun u s' ⟨a, B, sI, pins, σ, H, cls, d, e, I, nb, up, sky, na, os, ag, w⟩ =>
  tk u s' ⟨a, B, sI, pins, σ, H, cls, d, e, I, nb, up, sky, na, os, ag, w σ I.len⟩
variable {i : Nat} {body suite : List Stmt} {b₀ : Stmt} {tb : DXK → DTS} {ts : Addr → Addr → DTS}
theorem ds_try_as (i : Nat) (hN : X.N.Nodup) (hm : X.mg x = some (.ref C)) (te : PySem.W.exmOne X.K (.ref C) (.ref C) = some true)
    (hb : ∀ (XWb : DXK) (pn : List (Addr × Obj)) (xe : Value → Shared → Prop), DSs XWb (X.tr pn xe) body (tb XWb))
    (hsu : ∀ (a : Addr) (oe : Obj) (dd : Addr) (pn : List (Addr × Obj)), Zc (.ref C) (some dd) oe → (∃ vs, oe.data = .fields vs) → DSs X0 (X.suite a ((a, oe) :: pn)) (b₀ :: suite) (ts a dd))
    (hs : X.stack = X.env :: X.outer := by rfl) (hf : X.env.frame = some X.env.locals := by rfl) (hi : X.N[i]? = some n := by rfl) (hln : X.env.kindOf n = some .local := by rfl) (hgl : Gl X x := by rfl) (hdb : (x == ("__debug__" : Str)) = false := by decide) :
    DS XW X (.Try body [.ExceptHandler (some (.Name x np)) (some n) (b₀ :: suite) pos'] [] [] pos) (dTryAs i X.N.length C tb ts) := by
  refine ⟨fun g0 hg0 => PS_imp (ps_try_as (c := .ref C) (Wout := fun cls d _ H => g0.2 cls d H)
    (tb := fun W D σ H => ∃ XWb : DXK, liftS ⟨X.K, XWb, fun cls d H => ∀ σ, σ.length = X.N.length → W cls d σ H⟩ (tb XWb) D σ H)
    (ts := fun a cls d D σ H => ∃ dd, cls = .ref C ∧ d = some dd ∧ liftS ⟨X.K, X0, L2.E0⟩ (ts a dd) D σ H) hs hf hN hi hln ⟨hgl, hdb, .inl hm⟩ (hg0.takes hs) (fun W pn xe tk hp => ?_) (fun a oe cls d pn hz hfl => ?_)) ?_⟩
  · refine ⟨fun pins s σ H D I h => ?_⟩
    obtain ⟨XWb, h⟩ := h
    exact ((hb XWb pn xe).ps (XWb, fun cls d H => ∀ σ, σ.length = X.N.length → W cls d σ H) (good_of (takes_all tk) fun _ _ _ h => h)).run pins s σ H D I h
  · refine ⟨fun pins s σ H D I h => ?_⟩
    obtain ⟨dd, rfl, rfl, h⟩ := h
    exact ((hsu a oe dd pn hz hfl).ps (X0, L2.E0) (good_of (takesL) fun _ _ _ h => h)).run pins s σ H D I h
  · rintro VD σ H ⟨F, O, S, D, rs, sr, ⟨XWb, h1, h2⟩, fin⟩
    refine ⟨XWb, F, O, S, D, ⟨rs.fro, rs.own, ?_⟩, sr, h1, ?_⟩
    · intro C' fs O' q d H' F' raw rs0 xat fresh σ' hl
      obtain ⟨rfl, l, rfl, hh⟩ := h2 _ _ _ q
      obtain ⟨dd, fvs, rfl, e1, e2, e3, e4⟩ := xat
      refine ⟨true, te, fun _ a ha => ⟨dd, rfl, rfl, F', oset O' dd (.xd l), _, { nx := fun _ _ => False, rt := D.rt }, ⟨rs0.fro, fun b c eb => ?_, fun _ _ _ h => h.elim⟩, ?_, hh a dd ?_ e3, ?_⟩, fun h => by cases h⟩
      · by_cases hb : b = dd
        · subst hb; rw [oset_same] at eb; cases eb
          exact ⟨e2, fvs, e1, e4⟩
        · rw [oset_ne hb] at eb; exact rs0.own b c eb
      · have base : SR X.K F' σ' (List.replicate X.N.length none) := ⟨by simp [hl], fun j d e => by
          rw [List.getElem?_replicate] at e
          split at e <;> cases e⟩
        exact base.set i (.ref a)
      · cases e : O' a with
        | none => rfl
        | some c =>
          obtain ⟨o, z⟩ := (rs0.own a c e).2.some
          rw [ha] at z; cases z
      · refine ⟨fun _ _ h => h.elim, fun d O2 q2 v H2 F2 s rv => ?_, fun _ _ h => h.elim, fun _ _ h => h.elim⟩
        refine fin.rt d O2 q2 v H2 F2 (Stp.mk' rs (raw.sub.trans s.sub) s.rs.z (fun b o b1 b2 => ?_) (fun b o b1 b2 b3 => ?_)) rv
        · obtain ⟨c1, c2⟩ := raw.keep b o b1 b2
          have hb : b ≠ dd := fun z => fresh dd o rfl (z ▸ b1) (z ▸ b2)
          exact s.keep b o c1 (by rw [oset_ne hb]; exact c2)
        · obtain ⟨c1, c2⟩ := raw.keep b o b1 b2
          have hb : b ≠ dd := fun z => fresh dd o rfl (z ▸ b1) (z ▸ b2)
          exact s.nof b o c1 (by rw [oset_ne hb]; exact c2) (raw.nof b o b1 b2 b3)
    · exact ⟨fun S O' q σ' H' F' s sr => fin.nx S O' q σ' H' F' (s.up rs) sr, fun d O' q v H' F' s rv => fin.rt d O' q v H' F' (s.up rs) rv, fun S O' q σ' H' F' s sr => fin.bk S O' q σ' H' F' (s.up rs) sr, fun S O' q σ' H' F' s sr => fin.ct S O' q σ' H' F' (s.up rs) sr⟩
end
def onX (c : Option Cell) (K : List (Str × DV) → Prop) : Prop :=
  match c with
  | some (.xd fs) => K fs
  | _ => False
theorem onX_e1 {fs : List (Str × DV)} {K : List (Str × DV) → Prop} : onX (some (.xd fs)) K = K fs := rfl
theorem onX_ex {c : Option Cell} {K : List (Str × DV) → Prop} (h : onX c K) : ∃ fs, c = some (.xd fs) ∧ K fs := by
  unfold onX at h
  split at h
  · exact ⟨_, rfl, h⟩
  · exact h.elim
/-- e.f of what was caught -/
def dXf (a dd : Addr) (f : Str) (td : DTE) (S : DSt) (O : Own) (Q : DVK) : Prop := td S O (kRef fun a' O1 => a' = a ∧ onX (O1 dd) fun fs => onSome (fs.lookup f) fun d => Q d O1)
theorem de_xf {X : Cx} {a C dd : Addr} {oe : Obj} {pn : List (Addr × Obj)} {e : Expr} {td : DTE} {pos : Pos} {n : Str} (T : XfC X.K C) (hno : PySem.W.findIn X.K (.ref C) n = some none)
    (hz : Zc (.ref C) (some dd) oe) (hf : ∃ vs, oe.data = .fields vs) (he : DE XW (X.suite a ((a, oe) :: pn)) e td) (hb : attributeBase e n X.env (eval e X.env) = eval e X.env := by rfl) :
    DE XW (X.suite a ((a, oe) :: pn)) (.Attribute e n pos) (dXf a dd n td) := by
  refine ⟨fun g0 hg0 => PE_imp (pe_xf T hno hz hf (he.pe g0 hg0) hb) ?_⟩
  rintro σ H VQ ⟨F, O, S, Q, rs, sr, h, fin⟩
  refine ⟨F, O, S, _, rs, sr, h, fun d O1 h1 v H1 F1 s1 rv => ?_⟩
  obtain ⟨a', rfl, h1⟩ := kRef_ex h1
  obtain ⟨ea, h2⟩ := h1
  subst ea
  cases rv
  obtain ⟨fs, ef, h2⟩ := onX_ex h2
  obtain ⟨d, ed, h2⟩ := onSome_ex h2
  obtain ⟨_, fvs, e1, rf⟩ := s1.rs.own dd _ ef
  obtain ⟨v, ev, rv⟩ := rf.lookup ed
  exact ⟨rfl, rfl, dd, fvs, v, rfl, e1, ev, fin _ _ h2 _ _ _ s1 rv⟩
end DL

set_option Elab.async false
set_option linter.all false
set_option maxRecDepth 100000
/-! DStrip: s.strip(t), over data. -/
namespace DL
open PySem PySem.Spec PyProof.Rows L2 TL
def dStrip : DV → List DV → Own → DVK → Prop
  | .str a, [.str b], O, Q => a.length ≤ sizeLine ∧ Q (.str (Txt.stripChars a b)) O
  | _, _, _, _ => False
theorem md_strip {X : Cx} : MtD X "str.strip" dStrip := by
  refine ⟨fun g0 => MtR_imp mt_stripChars ?_⟩
  rintro x xs H VQ ⟨F, O, d, ds, Q, rs, rx, rr, h, fin⟩
  unfold dStrip at h
  split at h
  · rename_i a y
    cases rx
    obtain ⟨v, rfl, ry⟩ := rr.one
    cases ry
    exact ⟨_, _, rfl, rfl, h.1, fin _ _ h.2 _ _ _ (.refl rs) (.str _)⟩
  · exact h.elim
theorem dStrip_e1 {a b : Str} {O : Own} {Q : DVK} : dStrip (.str a) [.str b] O Q = (a.length ≤ sizeLine ∧ Q (.str (Txt.stripChars a b)) O) := rfl
end DL
namespace DL
open PySem PySem.Spec PyProof.Rows L2 TL
/-- x == y where x is a list, owned or not -/
def dEqL (neg : Bool) (x y : DV) (O : Own) (Q : DVK) : Prop := lstQ O x fun xs => dEqP neg (.lst xs) y O Q
theorem dEqL_ok {X : Cx} {f : Value → Value → Sem Value} (neg : Bool) (h2 : OpR X f (if neg then rNeD X.K else rEqD X.K)) : OpD X f (dEqL neg) := by
  refine ⟨fun g => OpR_imp h2 ?_⟩
  rintro x y H VQ ⟨F, O, dx, dy, Q, rs, rx, ry, h, fin⟩
  obtain ⟨xs, e, h⟩ := lstQ_ex h
  obtain ⟨a, vs, rfl, h1, r1⟩ := lstOf_at rs rx e
  obtain ⟨p, e1, h⟩ := onSome_ex h
  obtain ⟨q, e2, h⟩ := onSome_ex h
  obtain ⟨s1, s2, h⟩ := h
  have d1 : Dp X.K H (.ref a) p := by
    unfold toPy at e1
    split at e1
    · rename_i ps e3; cases e1; exact .lst (SqL.of h1) (dps_of rs r1 e3)
    · cases e1
  have q' := fin _ _ h _ _ F (.refl rs) (.bl _)
  cases neg
  · exact ⟨_, _, d1, dp_of rs ry e2, s1, s2, by simpa [Bool.false_eq_true] using q'⟩
  · exact ⟨_, _, d1, dp_of rs ry e2, s1, s2, by simpa using q'⟩
theorem od_eqL {X : Cx} (hu : X.A.units + 64 < cLine) : OpD X (compareOp .Eq) (dEqL false) := dEqL_ok false (op_eqD hu)
theorem od_neL {X : Cx} (hu : X.A.units + 64 < cLine) : OpD X (compareOp .NotEq) (dEqL true) := dEqL_ok true (op_neD hu)
end DL

set_option Elab.async false
set_option linter.all false
set_option maxRecDepth 100000
namespace W1
open PySem PySem.Spec PyProof.Rows L2 TL DL
/-! ### trees that are drawn -/
def NMW (m : Str) : Prop := WordOk "name" (tl m)
def NM0 (f : Str) : Prop := f = "" ∨ NMW f
def Atom : Ex → Prop
  | .num n => n < 1000000
  | .truth _ => True
  | .name f m => NM0 f ∧ NMW m
  | _ => False
def WX : Nat → Ex → Prop
  | 0, e => Atom e
  | d + 1, .num n => n < 1000000
  | d + 1, .truth _ => True
  | d + 1, .name f m => NM0 f ∧ NMW m
  | d + 1, .call f m as => NM0 f ∧ NMW m ∧ as.length ≤ 2 ∧ ∀ a ∈ as, Atom a
  | d + 1, .un _ a => WX d a
  | d + 1, .bin op a b => op ∈ binOps ∧ WX d a ∧ WX d b
theorem WX_atom {d : Nat} {e : Ex} (h : Atom e) : WX d e := by
  cases d with
  | zero => exact h
  | succ d => cases e <;> first | exact h | exact h.elim
def TT : Nat → Nat
  | 0 => 5
  | d + 1 => 2 * TT d + 8
theorem TT_ge (d : Nat) : 5 ≤ TT d := by
  cases d with
  | zero => exact Nat.le_refl _
  | succ d => simp only [TT]; omega
theorem TT_mono {d d' : Nat} (h : d ≤ d') : TT d ≤ TT d' := by
  induction h with
  | refl => exact Nat.le_refl _
  | step h ih => simp only [TT]; omega
theorem op_lev {op : Str} (h : op ∈ binOps) : op ∈ opsAt (opLev op - 1) ∧ 1 ≤ opLev op ∧ opLev op ≤ 6 ∧ opLev op ≠ 3 := by
  have k : ∀ op ∈ binOps, op ∈ opsAt (opLev op - 1) ∧ 1 ≤ opLev op ∧ opLev op ≤ 6 ∧ opLev op ≠ 3 := by decide +kernel
  exact k op h
theorem op_word {op : Str} (h : op ∈ binOps) : WordOk (kindOf op) (tl op) := by
  have k : ∀ op ∈ binOps, (kindOf op = "own" ∧ op ∈ ownW) ∨ (kindOf op = "sign" ∧ op ∈ signsW) := by decide +kernel
  rcases k op h with ⟨e, m⟩ | ⟨e, m⟩
  · rw [e]; exact own_ok m
  · rw [e]; exact sign_ok m
theorem num_int {n : Nat} (h : n < 1000000) : PySem.intText? (Str.ofString (toString (n : Int))) = some (n : Int) := PySem.W.KIN.num_reads (by omega) (by
  have : (10 : Int) ^ 10 = 10000000000 := by decide
  omega)
theorem num_word {n : Nat} (h : n < 1000000) : WordOk "num" (tl (Str.ofString (toString (n : Int)))) := num_ok (isnum_of _ (by omega) (by omega))
theorem Pure.mono {n m : Nat} {v : DV} (h : Pure n v) (hm : n ≤ m) : Pure m v := by
  induction h generalizing m with
  | non => exact .non
  | bl b => exact .bl b
  | int i => exact .int i
  | str x => exact .str x
  | tup h1 h2 ih =>
    obtain ⟨k, rfl⟩ : ∃ k, m = k + 1 := ⟨m - 1, by omega⟩
    exact .tup (fun x hx => ih x hx (by omega)) h2
  | lst h1 h2 ih =>
    obtain ⟨k, rfl⟩ : ∃ k, m = k + 1 := ⟨m - 1, by omega⟩
    exact .lst (fun x hx => ih x hx (by omega)) h2
theorem pure_plC {n : Int} {c : Nat} {k : Nat} : Pure (k + 1) (plC n c) := .tup (fun x hx => by
  simp only [List.mem_cons, List.not_mem_nil, or_false] at hx
  rcases hx with rfl | rfl <;> exact .int _) (by simp)
/-! ### a row that is laid -/
structure RW (row last : Str) (ws : List Wd) : Prop where
  ex : Ext (tl row) ws (tl last)
  len : (tl row).length ≤ 9 * ws.length
  ll : (tl last).length ≤ 6
  nl : 10 ∉ tl row
theorem RW0 : RW "" "" [] := ⟨ext0, Nat.le_refl _, by decide, by decide⟩
theorem RW.next {row last word kd : Str} {ws : List Wd} {g : Nat} (h : RW row last ws) (hw : WordOk kd (tl word)) (hg : g ≤ 3) (hgl : Glues last word → 1 ≤ g) :
    RW (ofL (tl row ++ List.replicate g 32 ++ tl word)) word (ws ++ [(kd, tl word, (tl row).length + g)]) := by
  have := h.len
  have hl := hw.2.2.1
  refine ⟨?_, ?_, hl, ?_⟩
  · rw [tl_ofL]
    refine ext_word h.ex hw fun q => ng_of fun z => ?_
    have := hgl z
    omega
  · rw [tl_ofL, List.length_append, List.length_append, List.length_replicate, List.length_append, List.length_singleton]; omega
  · rw [tl_ofL]
    intro q
    rcases List.mem_append.mp q with q | q
    · rcases List.mem_append.mp q with q | q
      · exact h.nl q
      · have := List.eq_of_mem_replicate q; omega
    · exact hw.2.2.2.1 q
def WK2 (rows : List DV) (row last : Str) : List (Key × DV) := [(.inr "rows", .lst rows), (.inr "row", .str row), (.inr "last", .str last)]
def WC (rows : List DV) (row last : Str) : Cell := .dK (WK2 rows row last)
theorem w2_rows {rows : List DV} {row last : Str} : dget (WK2 rows row last) (.inr "rows") = some (.lst rows) := rfl
theorem w2_row {rows : List DV} {row last : Str} : dget (WK2 rows row last) (.inr "row") = some (.str row) := rfl
theorem w2_last {rows : List DV} {row last : Str} : dget (WK2 rows row last) (.inr "last") = some (.str last) := rfl
theorem w2_upd {rows : List DV} {row last a b : Str} : dmerge (WK2 rows row last) (dmerge [] [(.inr "row", .str a), (.inr "last", .str b)]) = WK2 rows a b := rfl
theorem w2_len {rows : List DV} {row last : Str} : (WK2 rows row last).length = 3 := rfl
/-! ### the rows of a text -/
def allE : Nat → List (List Wd) → List (Nat × List Wd)
  | _, [] => []
  | k, ws :: r => (k, ws) :: allE (k + 1) r
def encN2 (p : Nat × List Wd) : DV := .lst (p.2.map (encW ((p.1 : Int) + 1)))
def nonE (wss : List (List Wd)) : List (Nat × List Wd) := (allE 0 wss).filter fun p => !p.2.isEmpty
theorem enc_all : ∀ {wss : List (List Wd)} {k : Nat}, encRows k wss = (allE k wss).map encN2
  | [], _ => rfl
  | ws :: wss, k => by
    simp only [encRows, allE, List.map_cons, encN2]
    rw [enc_all (wss := wss)]
theorem allE_app : ∀ {a b : List (List Wd)} {k : Nat}, allE k (a ++ b) = allE k a ++ allE (k + a.length) b
  | [], b, k => rfl
  | ws :: a, b, k => by
    simp only [List.cons_append, allE, List.length_cons]
    rw [allE_app, show k + 1 + a.length = k + (a.length + 1) by omega]
theorem allE_none : ∀ {a : List (List Wd)} {k : Nat}, (∀ ws ∈ a, ws = []) → (allE k a).filter (fun p => !p.2.isEmpty) = []
  | [], _, _ => rfl
  | ws :: a, k, h => by
    have e := h ws List.mem_cons_self
    subst e
    simp only [allE]
    rw [List.filter_cons_of_neg (by simp), allE_none fun ws hw => h ws (List.mem_cons_of_mem _ hw)]
theorem nonE_zero {a : List (List Wd)} (h : ∀ ws ∈ a, ws = []) : nonE a = [] := allE_none h
theorem nonE_one {a b : List (List Wd)} {ws : List Wd} (ha : ∀ ws ∈ a, ws = []) (hb : ∀ ws ∈ b, ws = []) (hw : ws ≠ []) : nonE (a ++ [ws] ++ b) = [(a.length, ws)] := by
  unfold nonE
  rw [allE_app, allE_app, List.filter_append, List.filter_append, allE_none ha, allE_none hb]
  cases ws with
  | nil => exact absurd rfl hw
  | cons t ws => simp [allE]
theorem nonE_two {a b : List (List Wd)} {ws us : List Wd} (ha : ∀ ws ∈ a, ws = []) (hb : ∀ ws ∈ b, ws = []) (hw : ws ≠ []) (hu : us ≠ []) : nonE (a ++ [ws] ++ b ++ [us]) = [(a.length, ws), (a.length + 1 + b.length, us)] := by
  have h1 := nonE_one (a := a) (b := b) ha hb hw
  unfold nonE at h1 ⊢
  rw [allE_app, List.filter_append, h1]
  cases us with
  | nil => exact absurd rfl hu
  | cons t us => simp [allE]; omega
/-- what worth_tree does -/
inductive Out where
  | val (v : DV) | flt (p : DV)
inductive TRo : List (Nat × List Wd) → Out → Prop
  | none : TRo [] (.flt (.tup [.int 1, .int 1]))
  | one {k : Nat} {ws : List Wd} {v : DV} {δ : Nat} : Wr ((k : Int) + 1) 0 δ ws v → δ < 8 → ws.length ≤ 60 → TRo [(k, ws)] (.val v)
  | two {k k2 : Nat} {ws r2 : List Wd} {t : Wd} {v : DV} {δ : Nat} {r : List (Nat × List Wd)} : Wr ((k : Int) + 1) 0 δ ws v → δ < 8 → ws.length ≤ 60 → TRo ((k, ws) :: (k2, t :: r2) :: r) (.flt (plW ((k2 : Int) + 1) t))
/-! ### sound texts -/
theorem spanIn_mem {g : List Nat} : ∀ {r : List Nat} {x : Nat}, x ∈ spanIn g r → x ∈ g
  | [], _, h => by simp [spanIn] at h
  | c :: r, x, h => by
    unfold spanIn at h
    rw [List.takeWhile_cons] at h
    split at h
    · rename_i q
      rcases List.mem_cons.mp h with rfl | h
      · simpa using q
      · exact spanIn_mem (r := r) h
    · cases h
theorem wordL_small {c : Nat} {r : List Nat} {k : Str} {w : List Nat} (h : wordL (c :: r) = (k, w)) (hk : k ≠ "") : Cps k ∧ ∀ x ∈ w, x < 0x110000 := by
  have lb : ∀ x ∈ letters, x < 0x110000 := by decide +kernel
  have fb : ∀ x ∈ figs, x < 0x110000 := by decide +kernel
  have sb : ∀ s ∈ signsW, ∀ x ∈ tl s, x < 0x110000 := by decide +kernel
  have c1 : Cps "own" := cps_of (by decide +kernel)
  have c2 : Cps "name" := cps_of (by decide +kernel)
  have c3 : Cps "num" := cps_of (by decide +kernel)
  have c4 : Cps "sign" := cps_of (by decide +kernel)
  have c5 : Cps "" := cps_of (by decide +kernel)
  by_cases hc : c ∈ letters
  · rw [wordL_let rfl hc] at h
    obtain ⟨rfl, rfl⟩ := Prod.mk.inj h
    refine ⟨?_, fun x hx => lb x (spanIn_mem hx)⟩
    split
    · exact c1
    · split
      · exact c2
      · exact c5
  · by_cases hf : c ∈ figs
    · rw [wordL_fig rfl hc hf] at h
      obtain ⟨rfl, rfl⟩ := Prod.mk.inj h
      refine ⟨?_, fun x hx => fb x (spanIn_mem hx)⟩
      split
      · exact c3
      · exact c5
    · cases hs : signsW.find? (fun s => decide ((c :: r).take (tl s).length = tl s)) with
      | none =>
        rw [wordL_none rfl hc hf hs] at h
        obtain ⟨rfl, rfl⟩ := Prod.mk.inj h
        exact absurd rfl hk
      | some s =>
        rw [wordL_sign rfl hc hf hs] at h
        obtain ⟨rfl, rfl⟩ := Prod.mk.inj h
        exact ⟨c4, sb s (find_pre hs).1⟩
theorem scan_small {r : List Nat} {e : Nat} {ws : List Wd} (h : Scan r e ws) : ∀ t ∈ ws, Cps t.1 ∧ Cps (ofL t.2.1) := by
  induction h with
  | nil => simp
  | rem => simp
  | blank _ ih => exact ih
  | word h1 h2 h3 h4 h5 ih =>
    intro t ht
    rcases List.mem_cons.mp ht with rfl | ht
    · obtain ⟨a, b⟩ := wordL_small h3 h4
      exact ⟨a, cps_of (by rw [tl_ofL]; exact b)⟩
    · exact ih t ht
theorem rows_small : ∀ {rs : List Str} {wss : List (List Wd)}, ScanRows rs wss → ∀ ws ∈ wss, ∀ t ∈ ws, Cps t.1 ∧ Cps (ofL t.2.1)
  | [], [], _, _, h => by cases h
  | r :: rs, ws :: wss, h, ws', hw => by
    rcases List.mem_cons.mp hw with rfl | hw
    · exact scan_small h.1
    · exact rows_small h.2 ws' hw
  | [], _ :: _, h, _, _ => h.elim
  | _ :: _, [], h, _, _ => h.elim
theorem allE_mem : ∀ {wss : List (List Wd)} {k : Nat} {p : Nat × List Wd}, p ∈ allE k wss → p.2 ∈ wss
  | [], _, _, h => by cases h
  | ws :: wss, k, p, h => by
    rcases List.mem_cons.mp h with rfl | h
    · exact List.mem_cons_self
    · exact List.mem_cons_of_mem _ (allE_mem h)
theorem allE_len : ∀ {wss : List (List Wd)} {k : Nat}, (allE k wss).length = wss.length
  | [], _ => rfl
  | ws :: wss, k => by simp [allE, allE_len (wss := wss)]
theorem pureS_row {n : Int} {ws : List Wd} (h : ∀ t ∈ ws, Cps t.1 ∧ Cps (ofL t.2.1)) : ∀ x ∈ ws.map (encW n), PureS 2 x := by
  intro x hx
  obtain ⟨t, ht, rfl⟩ := List.mem_map.mp hx
  obtain ⟨a, b⟩ := h t ht
  refine .tup (n := 1) fun y hy => ?_
  simp only [List.mem_cons, List.not_mem_nil, or_false] at hy
  rcases hy with rfl | rfl | rfl
  · exact .str _ a
  · exact .str _ b
  · refine .tup (n := 0) fun z hz => ?_
    simp only [List.mem_cons, List.not_mem_nil, or_false] at hz
    rcases hz with rfl | rfl <;> exact .int _
theorem pureS_n2 {p : Nat × List Wd} (h : ∀ t ∈ p.2, Cps t.1 ∧ Cps (ofL t.2.1)) : PureS 3 (encN2 p) := .lst (n := 2) (pureS_row h)
theorem enc2_nil {p : Nat × List Wd} : decide (p.2.map (encW ((p.1 : Int) + 1)) = []) = p.2.isEmpty := by
  cases p.2 with
  | nil => rfl
  | cons _ _ => rfl
/-- what the text of rows says -/
theorem txt_ok {rows : List Str} {wss : List (List Wd)} (h : ScanRows rows wss) (hr : ∀ r ∈ rows, (tl r).length ≤ 1000 ∧ 10 ∉ tl r) (hl : rows.length ≤ 20) :
    ∃ (rs : List Str) (wss' : List (List Wd)), (tl (Txt.join "\n" rows)).length ≤ 10000000 ∧ Txt.split (Txt.join "\n" rows) (Str.ofString "\n") = rs ∧ (∀ r ∈ rs, (tl r).length ≤ 10000) ∧ rs.length ≤ 1000 ∧ ScanRows rs wss' ∧ nonE wss' = nonE wss := by
  cases e : rows with
  | nil =>
    subst e
    have hw : wss = [] := List.length_eq_zero_iff.mp (scanRows_len h).symm
    subst hw
    exact ⟨[""], [[]], by decide +kernel, by decide +kernel, by decide +kernel, by decide, ⟨.nil _, trivial⟩, rfl⟩
  | cons r0 rs0 =>
    rw [← e]
    refine ⟨rows, wss, ?_, split_join (y := "\n") (s := 10) (S := []) rfl (by decide +kernel) (by rw [e]; simp) (fun p hp => (hr p hp).2), fun r hr' => by have := (hr r hr').1; omega, by omega, h, rfl⟩
    have h1 := joinL_len (c := 10) (rows.map tl)
    have h2 : ∀ {rows : List Str}, (∀ r ∈ rows, (tl r).length ≤ 1000) → (rows.map fun r => (tl r).length).sum ≤ 1000 * rows.length := by
      intro rows
      induction rows with
      | nil => intro _; simp
      | cons r rows ih =>
        intro h
        have h1 := h r List.mem_cons_self
        have h2 := ih fun r hr => h r (List.mem_cons_of_mem _ hr)
        rw [List.map_cons, List.sum_cons, List.length_cons]; omega
    have h2 := h2 fun r hr' => (hr r hr').1
    rw [TL.join_eq, TL.tl_join]
    rw [List.map_map, List.length_map] at h1
    have e : (List.length ∘ tl : Str → Nat) = fun r => (tl r).length := rfl
    rw [e] at h1
    show (TL.joinL [10] (rows.map tl)).length ≤ _
    omega
def Spare2 (t : Str) : Prop := t = "" ∨ t = "   " ∨ t = "# if" ∨ t = " # x"
theorem spare2_scan {t : Str} (h : Spare2 t) : (∀ e, Scan (tl t) e []) ∧ (tl t).length ≤ 8 ∧ 10 ∉ tl t := by
  rcases h with rfl | rfl | rfl | rfl
  · exact ⟨fun e => .nil e, by decide +kernel, by decide +kernel⟩
  · exact ⟨fun e => .blank (.blank (.blank (.nil _))), by decide +kernel, by decide +kernel⟩
  · exact ⟨fun e => .rem _ _, by decide +kernel, by decide +kernel⟩
  · exact ⟨fun e => .blank (.rem _ _), by decide +kernel, by decide +kernel⟩
theorem spares_scan : ∀ {sp : List Str}, (∀ r ∈ sp, Spare2 r) → ScanRows sp (sp.map fun _ => [])
  | [], _ => trivial
  | r :: sp, h => ⟨(spare2_scan (h r List.mem_cons_self)).1 0, spares_scan fun r hr => h r (List.mem_cons_of_mem _ hr)⟩
end W1
namespace W1
open PySem PySem.Spec PyProof.Rows L2 TL DL
structure CtxE2 (kvs : List (Key × DV)) (ns : List Nm) (ds : List Df) (sg : List Str) : Prop where
  n : dget kvs (Sum.inr (Str.ofString "names")) = some (.lst (ns.map encN))
  d : dget kvs (Sum.inr (Str.ofString "defs")) = some (.lst (ds.map encDf))
  s : dget kvs (Sum.inr (Str.ofString "signs")) = some (.lst (sg.map DV.str))
  on : ∀ x ∈ ns, NM0 x.2.1 ∧ NMW x.2.2 ∧ PureS 1 (encN x)
  od : ∀ x ∈ ds, NM0 x.1 ∧ NMW x.2.1 ∧ x.2.2.1.length ≤ 2 ∧ (∀ k ∈ x.2.2.1, KN k) ∧ PureS 2 (encDf x)
  ln : ns.length ≤ 1000
  ld : ds.length ≤ 1000
  os : (∀ s ∈ sg, s ∈ binOps) ∧ 0 < sg.length ∧ sg.length ≤ 5
theorem nm_let {m : Str} (h : ∃ c, tl m = [c] ∧ c ∈ letters) : NMW m := by
  obtain ⟨c, e, hc⟩ := h
  have k1 : ∀ x ∈ letters, x ≠ 35 ∧ x ≠ 32 ∧ x ≠ 10 := by decide +kernel
  obtain ⟨n1, n2, n3⟩ := k1 c hc
  refine ⟨by decide, ⟨c, [], e, n1, n2⟩, by rw [e]; simp, ?_, fun t ht => ?_⟩
  · intro h
    rw [e] at h
    simp only [List.mem_singleton] at h
    exact n3 h.symm
  · have hs : spanIn letters (tl m ++ t) = tl m := span_all (by rw [e]; simpa using hc) (fun x y hx hy h1 h2 => ht x y hx hy (.inl ⟨h1, h2⟩)) (by rw [e]; simp)
    have hh : (tl m ++ t).head? = some c := by rw [e]; rfl
    have := wordL_name hh hc (by
      rw [hs, ofL_tl]
      intro hm
      have k2 : ∀ s ∈ ownW, (tl s).length ≠ 1 := by decide +kernel
      exact k2 m hm (by rw [e]; rfl)) (by rw [hs, e]; simp)
    rw [this, hs]
def NS92 : List Nm := [("num", "", "x"), ("yes", "f", "t"), ("num", "f", "u")]
def DF92 : List Df := [("", "g", ["num", "yes"], "num"), ("f", "h", [], "yes")]
def SG92 : List Str := ["+", "*", "mod", "-", "/"]
theorem lit_nm : NMW "x" ∧ NMW "t" ∧ NMW "u" ∧ NMW "f" ∧ NMW "g" ∧ NMW "h" := by
  refine ⟨nm_let ⟨_, rfl, ?_⟩, nm_let ⟨_, rfl, ?_⟩, nm_let ⟨_, rfl, ?_⟩, nm_let ⟨_, rfl, ?_⟩, nm_let ⟨_, rfl, ?_⟩, nm_let ⟨_, rfl, ?_⟩⟩ <;> decide +kernel
theorem ctx92 {kvs : List (Key × DV)} (h1 : dget kvs (Sum.inr (Str.ofString "names")) = some (.lst (NS92.map encN))) (h2 : dget kvs (Sum.inr (Str.ofString "defs")) = some (.lst (DF92.map encDf))) (h3 : dget kvs (Sum.inr (Str.ofString "signs")) = some (.lst (SG92.map DV.str))) :
    CtxE2 kvs NS92 DF92 SG92 := by
  obtain ⟨n1, n2, n3, n4, n5, n6⟩ := lit_nm
  refine ⟨h1, h2, h3, ?_, ?_, by decide, by decide, by decide +kernel, by decide, by decide⟩
  · intro x hx
    simp only [NS92, List.mem_cons, List.not_mem_nil, or_false] at hx
    rcases hx with rfl | rfl | rfl
    · exact ⟨.inl rfl, n1, pure_str3 (n := 0) (fun y hy => by
        simp only [List.mem_cons, List.not_mem_nil, or_false] at hy
        rcases hy with rfl | rfl | rfl <;> exact ⟨_, rfl, cps_of (by decide +kernel)⟩)⟩
    · exact ⟨.inr n4, n2, pure_str3 (n := 0) (fun y hy => by
        simp only [List.mem_cons, List.not_mem_nil, or_false] at hy
        rcases hy with rfl | rfl | rfl <;> exact ⟨_, rfl, cps_of (by decide +kernel)⟩)⟩
    · exact ⟨.inr n4, n3, pure_str3 (n := 0) (fun y hy => by
        simp only [List.mem_cons, List.not_mem_nil, or_false] at hy
        rcases hy with rfl | rfl | rfl <;> exact ⟨_, rfl, cps_of (by decide +kernel)⟩)⟩
  · have pd : ∀ (a b : Str) (ks : List Str) (c : Str), Cps a → Cps b → (∀ k ∈ ks, Cps k) → Cps c → PureS 2 (encDf (a, b, ks, c)) := fun a b ks c ha hb hk hc => by
      refine .tup (n := 1) fun y hy => ?_
      simp only [List.mem_cons, List.not_mem_nil, or_false] at hy
      rcases hy with rfl | rfl | rfl | rfl
      · exact .str _ ha
      · exact .str _ hb
      · refine .tup (n := 0) fun z hz => ?_
        obtain ⟨k, hk', rfl⟩ := List.mem_map.mp hz
        exact .str _ (hk k hk')
      · exact .str _ hc
    have c1 : ∀ k ∈ (["num", "yes"] : List Str), Cps k := by unfold Cps; decide +kernel
    intro x hx
    simp only [DF92, List.mem_cons, List.not_mem_nil, or_false] at hx
    rcases hx with rfl | rfl
    · exact ⟨.inl rfl, n5, by decide, (fun k hk => by
        simp only [List.mem_cons, List.not_mem_nil, or_false] at hk
        exact hk), pd _ _ _ _ (cps_of (by decide +kernel)) (cps_of (by decide +kernel)) c1 (cps_of (by decide +kernel))⟩
    · exact ⟨.inr n4, n6, by decide, (fun k hk => by cases hk), pd _ _ _ _ (cps_of (by decide +kernel)) (cps_of (by decide +kernel)) (fun k hk => by cases hk) (cps_of (by decide +kernel))⟩
end W1
namespace W1
open PySem PySem.Spec PyProof.Rows L2 TL DL
/-- the state in which words are laid: the dice at a, the row that grows at w -/
def LS (a w : Addr) (rows : List DV) (ws : List Wd) (O : Own) : Prop := ∃ c row last, O a = some c ∧ Dice c ∧ O w = some (WC rows row last) ∧ RW row last ws
theorem LS.dice {a w : Addr} {rows : List DV} {ws : List Wd} {O : Own} {c : Cell} (h : LS a w rows ws O) (haw : a ≠ w) (hc : Dice c) : LS a w rows ws (oset O a c) := by
  obtain ⟨_, row, last, h1, h2, h3, h4⟩ := h
  exact ⟨c, row, last, oset_same, hc, by rw [oset_ne (Ne.symm haw)]; exact h3, h4⟩
theorem LS.fr {a w p : Addr} {rows : List DV} {ws : List Wd} {O : Own} {c : Cell} (h : LS a w rows ws O) (h1 : a ≠ p) (h2 : w ≠ p) : LS a w rows ws (oset O p c) := by
  obtain ⟨c', row, last, g1, g2, g3, g4⟩ := h
  exact ⟨c', row, last, by rw [oset_ne h1]; exact g1, g2, by rw [oset_ne h2]; exact g3, g4⟩
def PV (n : Nat) (v : DV) : Prop := Pure n v ∧ PureS n v
theorem PureS.up {n m : Nat} {v : DV} (h : PureS n v) (hm : n ≤ m) : PureS m v := by
  induction h generalizing m with
  | non => exact .non
  | bl b => exact .bl b
  | int i => exact .int i
  | str x hx => exact .str x hx
  | tup h1 ih =>
    obtain ⟨k, rfl⟩ : ∃ k, m = k + 1 := ⟨m - 1, by omega⟩
    exact .tup (fun x hx => ih x hx (by omega))
  | lst h1 ih =>
    obtain ⟨k, rfl⟩ : ∃ k, m = k + 1 := ⟨m - 1, by omega⟩
    exact .lst (fun x hx => ih x hx (by omega))
theorem PV.up {n m : Nat} {v : DV} (h : PV n v) (hm : n ≤ m) : PV m v := ⟨h.1.mono hm, h.2.up hm⟩
theorem PV.tup {n : Nat} {xs : List DV} (h : ∀ x ∈ xs, PV n x) (hl : xs.length ≤ 1000000) : PV (n + 1) (.tup xs) := ⟨.tup (fun x hx => (h x hx).1) hl, .tup fun x hx => (h x hx).2⟩
theorem PV.str {n : Nat} {s : Str} (h : Cps s) : PV n (.str s) := ⟨.str _, .str _ h⟩
theorem PV.int {n : Nat} {i : Int} : PV n (.int i) := ⟨.int _, .int _⟩
theorem PV.bl {n : Nat} {i : Bool} : PV n (.bl i) := ⟨.bl _, .bl _⟩
theorem PV.pl {n : Nat} {i : Int} {c : Nat} : PV (n + 1) (plC i c) := .tup (fun x hx => by
  simp only [List.mem_cons, List.not_mem_nil, or_false] at hx
  rcases hx with rfl | rfl <;> exact .int) (by simp)
theorem nmw_cps {m : Str} (h : NMW m) : Cps m := by
  obtain ⟨h1, ⟨c, r, e, _, _⟩, _, _, h5⟩ := h
  have := h5 [] (fun x y _ hy => by cases hy)
  rw [List.append_nil, e] at this
  have h6 := (wordL_small this (by decide)).2
  exact cps_of (by rw [e]; exact h6)
theorem nm0_cps {m : Str} (h : NM0 m) : Cps m := by
  rcases h with rfl | h
  · exact cps_of (by decide +kernel)
  · exact nmw_cps h
theorem pv_num {n : Int} {c : Nat} {i : Int} : PV 2 (.tup [.str "num", plC n c, .int i]) := .tup (n := 1) (fun x hx => by
  simp only [List.mem_cons, List.not_mem_nil, or_false] at hx
  rcases hx with rfl | rfl | rfl
  · exact .str (cps_of (by decide +kernel))
  · exact .pl
  · exact .int) (by simp)
theorem pv_truth {n : Int} {c : Nat} {i : Bool} : PV 2 (.tup [.str "truth", plC n c, .bl i]) := .tup (n := 1) (fun x hx => by
  simp only [List.mem_cons, List.not_mem_nil, or_false] at hx
  rcases hx with rfl | rfl | rfl
  · exact .str (cps_of (by decide +kernel))
  · exact .pl
  · exact .bl) (by simp)
theorem pv_name {n : Int} {c : Nat} {f m : Str} (hf : Cps f) (hm : Cps m) : PV 2 (.tup [.str "name", plC n c, .str f, .str m]) := .tup (n := 1) (fun x hx => by
  simp only [List.mem_cons, List.not_mem_nil, or_false] at hx
  rcases hx with rfl | rfl | rfl | rfl
  · exact .str (cps_of (by decide +kernel))
  · exact .pl
  · exact .str hf
  · exact .str hm) (by simp)
theorem pv_call {k : Nat} {n : Int} {c : Nat} {f m : Str} {vs : List DV} (hf : Cps f) (hm : Cps m) (h : ∀ v ∈ vs, PV (k + 1) v) (hl : vs.length ≤ 1000000) : PV (k + 3) (.tup [.str "call", plC n c, .str f, .str m, .tup vs]) := .tup (n := k + 2) (fun x hx => by
  simp only [List.mem_cons, List.not_mem_nil, or_false] at hx
  rcases hx with rfl | rfl | rfl | rfl | rfl
  · exact .str (cps_of (by decide +kernel))
  · exact .pl
  · exact .str hf
  · exact .str hm
  · exact .tup h hl) (by simp)
theorem pv_un {k : Nat} {n : Int} {c : Nat} {s : Str} {v : DV} (hs : Cps s) (h : PV (k + 1) v) : PV (k + 2) (.tup [.str s, plC n c, v]) := .tup (n := k + 1) (fun x hx => by
  simp only [List.mem_cons, List.not_mem_nil, or_false] at hx
  rcases hx with rfl | rfl | rfl
  · exact .str hs
  · exact .pl
  · exact h) (by simp)
theorem pv_bin {k : Nat} {n : Int} {c : Nat} {s : Str} {v u : DV} (hs : Cps s) (h : PV (k + 1) v) (h2 : PV (k + 1) u) : PV (k + 2) (.tup [.str s, plC n c, v, u]) := .tup (n := k + 1) (fun x hx => by
  simp only [List.mem_cons, List.not_mem_nil, or_false] at hx
  rcases hx with rfl | rfl | rfl | rfl
  · exact .str hs
  · exact .pl
  · exact h
  · exact h2) (by simp)
def tagOf : Ex → Str
  | .num _ => "num"
  | .truth _ => "truth"
  | .name _ _ => "name"
  | .call _ _ _ => "call"
  | .un neg _ => if neg then "neg" else "not"
  | .bin op _ _ => op
def levE : Ex → Nat
  | .un neg _ => if neg then 6 else 2
  | .bin op _ _ => opLev op - 1
  | _ => 7
theorem enc_tag (e : Ex) : ∃ r, enc e = .tup (.str (tagOf e) :: r) := by
  cases e <;> simp only [enc, tagOf] <;> exact ⟨_, rfl⟩
theorem levE_of {d : Nat} {e : Ex} (h : WX d e) : LevOf (tagOf e) (levE e) := by
  cases e with
  | num n => exact .inr (.inr (.inr ⟨show ("num" : Str) ∈ _ by decide, rfl⟩))
  | truth n => exact .inr (.inr (.inr ⟨show ("truth" : Str) ∈ _ by decide, rfl⟩))
  | name f n => exact .inr (.inr (.inr ⟨show ("name" : Str) ∈ _ by decide, rfl⟩))
  | call f n as => exact .inr (.inr (.inr ⟨show ("call" : Str) ∈ _ by decide, rfl⟩))
  | un neg a =>
    cases neg
    · exact .inr (.inl ⟨rfl, rfl⟩)
    · exact .inr (.inr (.inl ⟨rfl, rfl⟩))
  | bin op a b =>
    cases d with
    | zero => exact h.elim
    | succ d =>
      have := (op_lev h.1).2.1
      exact .inl ⟨h.1, by simp only [levE, tagOf]; omega⟩
theorem partsT_snoc {ps : List Pt} {p : Pt} (h : ps ≠ []) : partsT (ps ++ [p]) = partsT ps ++ sg "," p.1 :: p.2.1 := by
  cases ps with
  | nil => exact absurd rfl h
  | cons q ps => simp [partsT, tailT]
theorem dot_word : WordOk "sign" (tl ".") ∧ WordOk "sign" (tl "(") ∧ WordOk "sign" (tl ")") ∧ WordOk "sign" (tl ",") ∧ WordOk "sign" (tl "-") ∧ WordOk "own" (tl "not") ∧ WordOk "own" (tl "yes") ∧ WordOk "own" (tl "no") :=
  ⟨sign_ok (by decide), sign_ok (by decide), sign_ok (by decide), sign_ok (by decide), sign_ok (by decide), own_ok (by decide), own_ok (by decide), own_ok (by decide)⟩
def outV : Out → DV
  | .val v => v
  | .flt p => .tup [.str "refused", .str "tree", .str "", p, .str "tree"]
theorem fx_stage {a b c d : DV} : List.lookup (Str.ofString "stage") ([(Str.ofString "why", a), (Str.ofString "place", b), (Str.ofString "file", c), (Str.ofString "stage", d)] : List (Str × DV)) = some d := rfl
theorem fx_file {a b c d : DV} : List.lookup (Str.ofString "file") ([(Str.ofString "why", a), (Str.ofString "place", b), (Str.ofString "file", c), (Str.ofString "stage", d)] : List (Str × DV)) = some c := rfl
theorem fx_place {a b c d : DV} : List.lookup (Str.ofString "place") ([(Str.ofString "why", a), (Str.ofString "place", b), (Str.ofString "file", c), (Str.ofString "stage", d)] : List (Str × DV)) = some b := rfl
theorem fx_why {a b c d : DV} : List.lookup (Str.ofString "why") ([(Str.ofString "why", a), (Str.ofString "place", b), (Str.ofString "file", c), (Str.ofString "stage", d)] : List (Str × DV)) = some a := rfl
theorem rep0_ {xs : List DV} : (List.replicate (Int.toNat 0) xs).flatten = [] := rfl
theorem rep1_ {xs : List DV} : (List.replicate (Int.toNat 1) xs).flatten = xs := by
  show xs ++ [] = xs
  simp
theorem fr_new {O O1 : Own} {x : Addr} {c : Cell} (hx : O x = none) (h : Fr (oset O x c) O1 [x]) : Fr O O1 [] := fun b _ hb => by
  have hne : b ≠ x := by rintro rfl; exact hb hx
  rw [h b (by simpa using hne) (by rw [oset_ne hne]; exact hb), oset_ne hne]
theorem cut2_ {a b c d : DV} : DL.cutD [a, b, c, d] (some 2) none = [c, d] := rfl
theorem LS.ne {a w p : Addr} {rows : List DV} {ws : List Wd} {O : Own} (h : LS a w rows ws O) (hp : O p = none) : a ≠ p ∧ w ≠ p := by
  obtain ⟨c, row, last, h1, h2, h3, h4⟩ := h
  exact ⟨ne_of h1 hp, ne_of h3 hp⟩
theorem LS.frm {a w : Addr} {rows : List DV} {ws : List Wd} {O O' : Own} (h : LS a w rows ws O) (f : Fr O O' []) : LS a w rows ws O' := by
  obtain ⟨c, row, last, h1, h2, h3, h4⟩ := h
  exact ⟨c, row, last, f.at h1 (by simp), h2, f.at h3 (by simp), h4⟩
end W1
namespace W1
open PySem PySem.Spec PyProof.Rows L2 TL DL
theorem last_ok {r : Int} (h0 : 0 ≤ r) (h3 : r < 3) {x : Str} (hx : x ∈ (["y", "3", "end", ")"] : List Str)) :
    ∃ (y : Str) (kd : Str), repS (Str.ofString " ") r ++ x = y ∧ Scan (tl y) 0 [(kd, tl x, r.toNat)] ∧ Txt.stripChars y (Str.ofString " ") = x ∧ (tl y).length = r.toNat + (tl x).length ∧ (tl y).length ≤ 10 ∧ 10 ∉ tl y := by
  refine ⟨_, if x = "y" then "name" else if x = "3" then "num" else if x = "end" then "own" else "sign", rfl, ?_, ?_, ?_⟩
  · have hw : WordOk (if x = "y" then "name" else if x = "3" then "num" else if x = "end" then "own" else "sign") (tl x) := by
      simp only [List.mem_cons, List.not_mem_nil, or_false] at hx
      rcases hx with rfl | rfl | rfl | rfl
      · exact nm_let ⟨_, rfl, by decide +kernel⟩
      · exact num_ok ⟨by decide, by decide +kernel, by decide, .inr (by decide)⟩
      · exact own_ok (by decide)
      · exact sign_ok (by decide)
    generalize (if x = "y" then ("name" : Str) else if x = "3" then "num" else if x = "end" then "own" else "sign") = kd at hw ⊢
    have h1 := ext_word (g := r.toNat) ext0 hw (fun _ x y hx _ => by cases hx)
    have h2 := ext_end h1 (.inl rfl) (fun e => .nil e)
    rw [tl_append, repS_sp, tl_ofL]
    simpa using h2
  · have e : r = 0 ∨ r = 1 ∨ r = 2 := by omega
    simp only [List.mem_cons, List.not_mem_nil, or_false] at hx
    rcases e with rfl | rfl | rfl <;> rcases hx with rfl | rfl | rfl | rfl <;> decide +kernel
  · have e : r = 0 ∨ r = 1 ∨ r = 2 := by omega
    simp only [List.mem_cons, List.not_mem_nil, or_false] at hx
    rcases e with rfl | rfl | rfl <;> rcases hx with rfl | rfl | rfl | rfl <;> decide +kernel
/-- the rows with one E -/
theorem rows_one {sp sp2 : List Str} {row last t : Str} {ts : List Wd} (h1 : ∀ r ∈ sp, Spare2 r) (h2 : ∀ r ∈ sp2, Spare2 r) (hr : RW row last ts) (hl : ts.length ≤ 60) (ht : Tail t) :
    ScanRows (sp ++ [row ++ t] ++ sp2) (sp.map (fun _ => []) ++ [ts] ++ sp2.map fun _ => []) ∧ ∀ r ∈ sp ++ [row ++ t] ++ sp2, (tl r).length ≤ 1000 ∧ 10 ∉ tl r := by
  refine ⟨scanRows_app (scanRows_app (spares_scan h1) ⟨by rw [tl_append]; exact ext_end hr.ex (tail_scan ht).1 (tail_scan ht).2, trivial⟩) (spares_scan h2), fun r hr' => ?_⟩
  simp only [List.mem_append, List.mem_singleton] at hr'
  rcases hr' with (hr' | rfl) | hr'
  · have := spare2_scan (h1 r hr')
    exact ⟨by omega, this.2.2⟩
  · have h3 := small_rows (.inl ht)
    have := hr.len
    rw [tl_append, List.length_append]
    exact ⟨by omega, fun q => (List.mem_append.mp q).elim hr.nl h3.2⟩
  · have := spare2_scan (h2 r hr')
    exact ⟨by omega, this.2.2⟩
theorem nils_none {α : Type} {sp : List α} : ∀ ws ∈ sp.map (fun _ => ([] : List Wd)), ws = [] := by
  intro ws h
  obtain ⟨_, _, rfl⟩ := List.mem_map.mp h
  rfl
theorem Wr.ne {n : Int} {l δ : Nat} {ts : List Wd} {v : DV} (h : Wr n l δ ts v) : ts ≠ [] := by
  obtain ⟨t, r, rfl, _⟩ := h.hd
  simp
end W1
namespace W1
open PySem PySem.Spec PyProof.Rows L2 TL DL
theorem cutD_take {xs : List DV} {k : Nat} (h : k ≤ xs.length) : DL.cutD xs none (some (k : Int)) = xs.take k := by
  unfold DL.cutD
  rw [HT.sIx_none, HT.sIx_nat, List.drop_zero, Nat.min_eq_left h, Nat.sub_zero]
end W1
namespace W1
open PySem PySem.Spec PyProof.Rows L2 TL DL
theorem map_snoc {xs : List Str} {y : Str} : List.map DV.str xs ++ [DV.str y] = (xs ++ [y]).map DV.str := by
  rw [List.map_append]; rfl
theorem atI_last {xs : List Str} {y : Str} : atI ((xs ++ [y]).map DV.str) (-1) = some (.str y) := by
  rw [← map_snoc, atI_neg1 (by simp)]
  exact List.getLast?_concat
end W1
namespace W1
open PySem PySem.Spec PyProof.Rows L2 TL DL
theorem ref_pure {i j : Int} {s1 s2 s3 s4 : Str} : Pure 6 (.tup [.str s1, .str s2, .str s3, .tup [.int i, .int j], .str s4]) := by
  refine .tup (fun x hx => ?_) (by simp)
  simp only [List.mem_cons, List.not_mem_nil, or_false] at hx
  rcases hx with rfl | rfl | rfl | rfl | rfl
  · exact .str _
  · exact .str _
  · exact .str _
  · exact .tup (fun x hx => by
      simp only [List.mem_cons, List.not_mem_nil, or_false] at hx
      rcases hx with rfl | rfl <;> exact .int _) (by simp)
  · exact .str _
end W1

set_option Elab.async false
set_option linter.all false
set_option maxRecDepth 100000
namespace W1
open PySem PySem.Spec PyProof.Rows L2 TL DL
/-! ### rows of words, and the trees they tell -/
abbrev NW := Nat × List Wd
/-- a row that stands alone -/
inductive One (k : Nat) : List Wd → DV → Prop
  | set {n : Str} {c c2 δ : Nat} {ws : List Wd} {v : DV} : Wr ((k : Int) + 1) 0 δ ws v → δ < 8 → ws.length ≤ 56 → One k (nmW n c :: sg "=" c2 :: ws) (.tup [.str "set", plC ((k : Int) + 1) c, .str n, v])
  | lett {n : Str} {c0 c c2 δ : Nat} {ws : List Wd} {v : DV} : Wr ((k : Int) + 1) 0 δ ws v → δ < 8 → ws.length ≤ 56 → One k (ow "let" c0 :: nmW n c :: sg "=" c2 :: ws) (.tup [.str "let", plC ((k : Int) + 1) c, .str n, v])
  | give0 {c : Nat} : One k [ow "give" c] (.tup [.str "give", plC ((k : Int) + 1) c, .non])
  | one {w : Str} {c δ : Nat} {ws : List Wd} {v : DV} : (w = "give" ∨ w = "say") → Wr ((k : Int) + 1) 0 δ ws v → δ < 8 → ws.length ≤ 56 → One k (ow w c :: ws) (.tup [.str w, plC ((k : Int) + 1) c, v])
  | doc {c c0 c1 c2 δ : Nat} {ts : List Wd} {f m : Str} {ps : List Pt} : DotW ts f m c0 → ps.length ≤ 1000 → (∀ p ∈ ps, Wr ((k : Int) + 1) 0 δ p.2.1 p.2.2) → δ < 7 → (partsT ps).length ≤ 50 →
      One k (ow "do" c :: (ts ++ (sg "(" c1 :: partsT ps ++ [sg ")" c2]))) (.tup [.str "do", plC ((k : Int) + 1) c, .tup [.str "call", plC ((k : Int) + 1) c0, .str f, .str m, .tup (ps.map fun p => p.2.2)]])
mutual
/-- a row, and those within it -/
inductive Deed : Nat → Nat → List Wd → List NW → DV → Prop
  | one {d k : Nat} {ws : List Wd} {v : DV} : One k ws v → Deed d k ws [] v
  | br {d k c : Nat} {w : Str} {ws : List Wd} {af : List NW} {v : DV} : Br d k w c ws af v → Deed d k (ow w c :: ws) af v
inductive Br : Nat → Nat → Str → Nat → List Wd → List NW → DV → Prop
  | whl {d k c δ k2 c2 : Nat} {ws : List Wd} {t : DV} {bs : List NW} {bv : List DV} : Wr ((k : Int) + 1) 0 δ ws t → δ < 8 → ws.length ≤ 56 → Blk d bs bv →
      Br (d + 1) k "while" c ws (bs ++ [(k2, [ow "end" c2])]) (.tup [.str "while", plC ((k : Int) + 1) c, t, .tup bv])
  | if0 {d k c δ k2 c2 : Nat} {ws : List Wd} {t : DV} {bs : List NW} {bv : List DV} : Wr ((k : Int) + 1) 0 δ ws t → δ < 8 → ws.length ≤ 56 → Blk d bs bv →
      Br (d + 1) k "if" c ws (bs ++ [(k2, [ow "end" c2])]) (.tup [.str "if", plC ((k : Int) + 1) c, t, .tup bv, .tup []])
  | if1 {d k c δ k2 c2 k3 c3 : Nat} {ws : List Wd} {t : DV} {bs es : List NW} {bv ev : List DV} : Wr ((k : Int) + 1) 0 δ ws t → δ < 8 → ws.length ≤ 56 → Blk d bs bv → Blk d es ev →
      Br (d + 1) k "if" c ws ((bs ++ [(k2, [ow "else" c2])]) ++ (es ++ [(k3, [ow "end" c3])])) (.tup [.str "if", plC ((k : Int) + 1) c, t, .tup bv, .tup ev])
inductive Blk : Nat → List NW → List DV → Prop
  | nil {d : Nat} : Blk d [] []
  | cons {d k : Nat} {ws : List Wd} {af rs : List NW} {v : DV} {vs : List DV} : Deed d k ws af v → Blk d rs vs → Blk d ((k, ws) :: (af ++ rs)) (v :: vs)
end
theorem Br.wd {d k c : Nat} {w : Str} {ws : List Wd} {af : List NW} {v : DV} (h : Br d k w c ws af v) : (w = "if" ∨ w = "while") ∧ 0 < d := by
  cases h with
  | whl => exact ⟨.inr rfl, Nat.succ_pos _⟩
  | if0 => exact ⟨.inl rfl, Nat.succ_pos _⟩
  | if1 => exact ⟨.inl rfl, Nat.succ_pos _⟩
/-- a name or a call -/
inductive Na (n : Int) : Bool → Nat → List Wd → DV → Prop
  | nam {δ c : Nat} {ts : List Wd} {f m : Str} : DotW ts f m c → Na n false δ ts (.tup [.str "name", plC n c, .str f, .str m])
  | cal {δ c c1 c2 : Nat} {ts : List Wd} {f m : Str} {ps : List Pt} : DotW ts f m c → ps.length ≤ 1000 → (∀ p ∈ ps, Wr n 0 δ p.2.1 p.2.2) → Na n true (δ + 1) (ts ++ (sg "(" c1 :: partsT ps ++ [sg ")" c2])) (.tup [.str "call", plC n c, .str f, .str m, .tup (ps.map fun p => p.2.2)])
theorem Na.wr {n : Int} {b : Bool} {δ : Nat} {ts : List Wd} {v : DV} (h : Na n b δ ts v) : Wr n 7 δ ts v := by
  cases h with
  | nam h => exact .nam h
  | cal h1 h2 h3 => exact .cal h1 h2 h3
theorem Na.mono {n : Int} {b : Bool} {δ δ' : Nat} {ts : List Wd} {v : DV} (h : Na n b δ ts v) (hd : δ ≤ δ') : Na n b δ' ts v := by
  cases h with
  | nam h => exact .nam h
  | cal h1 h2 h3 =>
    obtain ⟨k, rfl⟩ : ∃ k, δ' = k + 1 := ⟨δ' - 1, by omega⟩
    exact .cal h1 h2 fun p hp => (h3 p hp).mono (by omega)
def isCall : Ex → Bool
  | .call _ _ _ => true
  | _ => false
theorem One.hd {k : Nat} {ws : List Wd} {v : DV} (h : One k ws v) : ∃ t r, ws = t :: r ∧ isNx ["end", "else"] (some t) = false := by
  cases h with
  | set => exact ⟨_, _, rfl, nx_nm⟩
  | lett => exact ⟨_, _, rfl, by rw [nx_ow]; rfl⟩
  | give0 => exact ⟨_, _, rfl, by rw [nx_ow]; rfl⟩
  | one hw => exact ⟨_, _, rfl, by rw [nx_ow]; rcases hw with rfl | rfl <;> rfl⟩
  | doc => exact ⟨_, _, rfl, by rw [nx_ow]; rfl⟩
theorem Deed.hd {d k : Nat} {ws : List Wd} {af : List NW} {v : DV} (h : Deed d k ws af v) : ∃ t r, ws = t :: r ∧ isNx ["end", "else"] (some t) = false := by
  cases h with
  | one h => exact h.hd
  | br h => exact ⟨_, _, rfl, by rw [nx_ow]; rcases h.wd.1 with rfl | rfl <;> rfl⟩
theorem isNx_sub {xs ys : List Str} {t : Option Wd} (h : isNx ys t = false) (hs : ∀ x ∈ xs, x ∈ ys) : isNx xs t = false := by
  cases t with
  | none => rfl
  | some t =>
    cases q : isNx xs (some t) with
    | false => rfl
    | true =>
      simp only [isNx, Bool.and_eq_true, decide_eq_true_eq] at q
      have : isNx ys (some t) = true := by
        simp only [isNx, Bool.and_eq_true, decide_eq_true_eq]
        exact ⟨q.1, hs _ q.2⟩
      rw [this] at h; cases h
mutual
theorem Deed.mono {d k : Nat} {ws : List Wd} {af : List NW} {v : DV} : Deed d k ws af v → Deed (d + 1) k ws af v
  | .one h => .one h
  | .br h => .br h.mono
theorem Br.mono {d k c : Nat} {w : Str} {ws : List Wd} {af : List NW} {v : DV} : Br d k w c ws af v → Br (d + 1) k w c ws af v
  | .whl h1 h2 h3 h4 => .whl h1 h2 h3 h4.mono
  | .if0 h1 h2 h3 h4 => .if0 h1 h2 h3 h4.mono
  | .if1 h1 h2 h3 h4 h5 => .if1 h1 h2 h3 h4.mono h5.mono
theorem Blk.mono {d : Nat} {rs : List NW} {vs : List DV} : Blk d rs vs → Blk (d + 1) rs vs
  | .nil => .nil
  | .cons h1 h2 => .cons h1.mono h2.mono
end
theorem Blk.len {d : Nat} : ∀ {rs : List NW} {vs : List DV}, Blk d rs vs → vs.length ≤ rs.length
  | _, _, .nil => Nat.le_refl _
  | _, _, .cons h1 h2 => by
    have := h2.len
    simp only [List.length_cons, List.length_append]; omega
theorem Blk.app {d : Nat} : ∀ {rs rs2 : List NW} {vs vs2 : List DV}, Blk d rs vs → Blk d rs2 vs2 → Blk d (rs ++ rs2) (vs ++ vs2)
  | _, _, _, _, .nil, h => h
  | _, _, _, _, .cons h1 h2, h => by
    have := Blk.cons h1 (h2.app h)
    simpa using this
/-! parts of a def -/
/-- (comma, name, its column, kind, its column) -/
abbrev Par := Nat × Str × Nat × Str × Nat
def parV (n : Int) (p : Par) : DV := .tup [plC n p.2.2.1, .str p.2.1, .str p.2.2.2.1]
def parW (p : Par) : List Wd := [nmW p.2.1 p.2.2.1, ow p.2.2.2.1 p.2.2.2.2]
def ptail (ps : List Par) : List Wd := ps.flatMap fun p => sg "," p.1 :: parW p
def parsW : List Par → List Wd
  | [] => []
  | p :: ps => parW p ++ ptail ps
def outW (o : Bool) (c : Nat) : List Wd := if o then [ow "out" c] else []
def kindW (kd : Str) (c : Nat) : List Wd := if kd = "" then [] else [ow kd c]
/-- what is told -/
inductive Told : List NW → DV → Prop
  | val {k c0 c1 c c2 δ : Nat} {o : Bool} {w n : Str} {ws : List Wd} {v : DV} : (w = "const" ∨ w = "keep") → Wr ((k : Int) + 1) 0 δ ws v → δ < 8 → ws.length ≤ 55 →
      Told [(k, outW o c0 ++ (ow w c1 :: nmW n c :: sg "=" c2 :: ws))] (.tup [.str w, plC ((k : Int) + 1) c, .bl o, .str n, v])
  | dfn {k c0 c1 c c2 c3 c4 k2 c5 d : Nat} {o : Bool} {n kd : Str} {ps : List Par} {bs : List NW} {bv : List DV} : ps.length ≤ 6 → (∀ p ∈ ps, p.2.2.2.1 = "num" ∨ p.2.2.2.1 = "yes") → (kd = "" ∨ kd = "num" ∨ kd = "yes") → Blk d bs bv → d ≤ 6 →
      Told ((k, outW o c0 ++ (ow "def" c1 :: nmW n c :: sg "(" c2 :: (parsW ps ++ (sg ")" c3 :: kindW kd c4)))) :: (bs ++ [(k2, [ow "end" c5])]))
        (.tup [.str "def", plC ((k : Int) + 1) c, .bl o, .str n, .tup (ps.map (parV ((k : Int) + 1))), .str kd, .tup bv, plC ((k2 : Int) + 1) c5])
inductive Tolds : List NW → List DV → Prop
  | nil : Tolds [] []
  | cons {a b : List NW} {v : DV} {vs : List DV} : Told a v → Tolds b vs → Tolds (a ++ b) (v :: vs)
/-- files that are used -/
abbrev Us := Nat × Str × Nat
def usV (n : Int) (p : Us) : DV := .tup [plC n p.2.2, .str p.2.1]
def usT (ps : List Us) : List Wd := ps.flatMap fun p => [sg "," p.1, nmW p.2.1 p.2.2]
def usW (c0 : Nat) (p : Us) (ps : List Us) : List Wd := ow "use" c0 :: nmW p.2.1 p.2.2 :: usT ps
inductive Uses : List NW → List DV → Prop
  | nil : Uses [] []
  | cons {k c0 : Nat} {p : Us} {ps : List Us} {b : List NW} {vs : List DV} : ps.length ≤ 20 → Uses b vs → Uses ((k, usW c0 p ps) :: b) ((p :: ps).map (usV ((k : Int) + 1)) ++ vs)
theorem Uses.app : ∀ {a b : List NW} {vs ws : List DV}, Uses a vs → Uses b ws → Uses (a ++ b) (vs ++ ws)
  | _, _, _, _, .nil, h => h
  | _, _, _, _, @Uses.cons k c0 p ps b vs h1 h2, h => by
    have := Uses.cons (k := k) (c0 := c0) (p := p) h1 (h2.app h)
    rw [List.append_assoc]
    exact this
theorem Tolds.app : ∀ {a b : List NW} {vs ws : List DV}, Tolds a vs → Tolds b ws → Tolds (a ++ b) (vs ++ ws)
  | _, _, _, _, .nil, h => h
  | _, _, _, _, .cons h1 h2, h => by
    have := Tolds.cons h1 (h2.app h)
    rw [List.append_assoc]
    exact this
theorem outW_ne {o : Bool} {c0 : Nat} {t : Wd} {r : List Wd} {xs : List Str} (h0 : ("out" : Str) ∉ xs) (ht : isNx xs (some t) = false) : isNx xs (outW o c0 ++ (t :: r)).head? = false := by
  cases o
  · exact ht
  · show isNx xs (some (ow "out" c0)) = false
    rw [nx_ow]; exact decide_eq_false h0
theorem Told.hd {a : List NW} {v : DV} (h : Told a v) : ∃ k ws r, a = (k, ws) :: r ∧ isNx ["use"] ws.head? = false ∧ ws ≠ [] := by
  cases h with
  | @val k c0 c1 c c2 δ o w n ws v hw =>
    refine ⟨_, _, _, rfl, outW_ne (by decide) ?_, by simp⟩
    rw [nx_ow]; rcases hw with rfl | rfl <;> rfl
  | dfn => exact ⟨_, _, _, rfl, outW_ne (by decide) (by rw [nx_ow]; rfl), by simp⟩
theorem Tolds.hd : ∀ {a : List NW} {vs : List DV}, Tolds a vs → a = [] ∨ ∃ k ws r, a = (k, ws) :: r ∧ isNx ["use"] ws.head? = false
  | _, _, .nil => .inl rfl
  | _, _, .cons h1 h2 => by
    obtain ⟨k, ws, r, rfl, h, _⟩ := h1.hd
    exact .inr ⟨k, ws, _, rfl, h⟩
/-! ### the reader of rows -/
def rdF (many : Int) (rows : List DV) (at' b : Int) : List (Str × DV) := [("many", .int many), ("rows", .lst rows), ("at", .int at'), ("blocks", .int b)]
def RdC (C : Addr) (many : Int) (done : List Addr) (ps : List (Addr × NW)) (b : Nat) : Cell := .ins C (rdF many ((done ++ ps.map (·.1)).map DV.ref) (done.length : Int) (b : Int))
structure RdS (C R rd : Addr) (many : Int) (done : List Addr) (ps : List (Addr × NW)) (b : Nat) (O : Own) : Prop where
  hr : O rd = some (RdC C many done ps b)
  hp : ∀ p ∈ ps, O p.1 = some (RwC R ((p.2.1 : Int) + 1) [] p.2.2 0)
  nd : (rd :: ps.map (·.1)).Nodup
  sm : done.length + ps.length ≤ 2000
section
variable {C a : Addr} {many i j at' b : Int} {rows : List DV} {v : DV} {K : List (Str × DV) → Prop} {done : List Addr} {ps : List (Addr × NW)} {n : Nat}
theorem rd_on : onI (some (RdC C many done ps n)) C K = K (rdF many ((done ++ ps.map (·.1)).map DV.ref) (done.length : Int) (n : Int)) := onI_e1
theorem df_many : (rdF many rows at' b).lookup ("many" : Str) = some (.int many) := rfl
theorem df_rows : (rdF many rows at' b).lookup ("rows" : Str) = some (.lst rows) := rfl
theorem df_at : (rdF many rows at' b).lookup ("at" : Str) = some (.int at') := rfl
theorem df_blocks : (rdF many rows at' b).lookup ("blocks" : Str) = some (.int b) := rfl
theorem df_len : (rdF many rows at' b).length = 4 := rfl
theorem dp_at : dputF "at" (.int i) (rdF many rows at' b) = rdF many rows i b := rfl
theorem dp_blocks : dputF "blocks" (.int i) (rdF many rows at' b) = rdF many rows at' i := rfl
theorem dp_m0 : dputF "many" (.int many) [] = ([("many", .int many)] : List (Str × DV)) := rfl
theorem dp_r0 : dputF "rows" v ([("many", .int many)] : List (Str × DV)) = ([("many", .int many), ("rows", v)] : List (Str × DV)) := rfl
theorem dp_a0 : dputF "at" (.int i) ([("many", .int many), ("rows", v)] : List (Str × DV)) = ([("many", .int many), ("rows", v), ("at", .int i)] : List (Str × DV)) := rfl
theorem dp_b0 : dputF "blocks" (.int j) ([("many", .int many), ("rows", .lst rows), ("at", .int i)] : List (Str × DV)) = rdF many rows i j := rfl
theorem dn_next_row : (rdF many rows at' b).lookup ("next_row" : Str) = none := rfl
theorem dn_uses : (rdF many rows at' b).lookup ("uses" : Str) = none := rfl
theorem dn_one_told : (rdF many rows at' b).lookup ("one_told" : Str) = none := rfl
theorem dn_deed : (rdF many rows at' b).lookup ("deed" : Str) = none := rfl
theorem dn_part : (rdF many rows at' b).lookup ("part" : Str) = none := rfl
theorem dn_block : (rdF many rows at' b).lookup ("block" : Str) = none := rfl
theorem dn_deed_row : (rdF many rows at' b).lookup ("deed_row" : Str) = none := rfl
theorem dn_ended : (rdF many rows at' b).lookup ("ended" : Str) = none := rfl
theorem dn_branched : (rdF many rows at' b).lookup ("branched" : Str) = none := rfl
theorem rn_call {ws : List DV} {at' dp : Int} : (rowF ws at' dp).lookup ("call" : Str) = none := rfl
theorem get_rd {p : Addr × NW} : (List.map DV.ref (done ++ (p :: ps).map (·.1)))[done.length]? = some (.ref p.1) := by
  rw [List.getElem?_map, List.getElem?_append_right (Nat.le_refl _), Nat.sub_self]
  rfl
theorem rd_len0 : ¬ (done.length : Int) < ((((done ++ List.map (fun x : Addr × NW => x.1) []).map DV.ref).length : Nat) : Int) := by simp
theorem rd_len1 {p : Addr × NW} : (done.length : Int) < ((((done ++ List.map (fun x : Addr × NW => x.1) (p :: ps)).map DV.ref).length : Nat) : Int) := by simp; omega
theorem rd_len2 {p : Addr × NW} : ¬ ((((done ++ List.map (fun x : Addr × NW => x.1) (p :: ps)).map DV.ref).length : Nat) : Int) ≤ (done.length : Int) := by simp; omega
theorem rd_next {p : Addr × NW} : Cell.ins C (rdF many (List.map DV.ref (done ++ (p :: ps).map (·.1))) ((done.length : Int) + 1) (n : Int)) = RdC C many (done ++ [p.1]) ps n := by
  unfold RdC
  simp
theorem rd_up : Cell.ins C (rdF many (List.map DV.ref (done ++ ps.map (·.1))) (done.length : Int) ((n : Int) + 1)) = RdC C many done ps (n + 1) := by
  unfold RdC
  simp
theorem rd_down : Cell.ins C (rdF many (List.map DV.ref (done ++ ps.map (·.1))) (done.length : Int) (((n + 1 : Nat) : Int) - 1)) = RdC C many done ps n := by
  unfold RdC
  rw [show ((n + 1 : Nat) : Int) - 1 = (n : Int) by omega]
end
section
variable {C R rd x : Addr} {many : Int} {done : List Addr} {ps : List (Addr × NW)} {b b' : Nat} {O O' : Own} {p : Addr × NW} {c : Cell} {as : List Addr}
/-- the next row is taken -/
theorem RdS.next (h : RdS C R rd many done (p :: ps) b O) : RdS C R rd many (done ++ [p.1]) ps b (oset O rd (RdC C many (done ++ [p.1]) ps b)) ∧ oset O rd (RdC C many (done ++ [p.1]) ps b) p.1 = some (RwC R ((p.2.1 : Int) + 1) [] p.2.2 0) ∧ p.1 ∉ rd :: ps.map (·.1) := by
  obtain ⟨h1, h2, h3, h4⟩ := h
  rw [List.map_cons] at h3
  obtain ⟨n1, n2⟩ := List.nodup_cons.mp h3
  obtain ⟨n3, n4⟩ := List.nodup_cons.mp n2
  have e1 : p.1 ≠ rd := fun e => n1 (by simp [e])
  refine ⟨⟨oset_same, fun q hq => ?_, List.nodup_cons.mpr ⟨fun q => n1 (List.mem_cons_of_mem _ q), n4⟩, ?_⟩, ?_, ?_⟩
  · have e2 : q.1 ≠ rd := fun e => n1 (List.mem_cons_of_mem _ (e ▸ List.mem_map_of_mem hq))
    rw [oset_ne e2]; exact h2 q (List.mem_cons_of_mem _ hq)
  · rw [List.length_append, List.length_singleton]; simp only [List.length_cons] at h4; omega
  · rw [oset_ne e1]; exact h2 p List.mem_cons_self
  · intro q
    rcases List.mem_cons.mp q with q | q
    · exact e1 q
    · exact n3 q
theorem RdS.fr (h : RdS C R rd many done ps b O) (f : Fr O O' as) (ha : ∀ x ∈ as, x ∉ rd :: ps.map (·.1)) : RdS C R rd many done ps b O' :=
  ⟨f.at h.hr fun q => ha _ q List.mem_cons_self, fun p hp => f.at (h.hp p hp) fun q => ha _ q (List.mem_cons_of_mem _ (List.mem_map_of_mem hp)), h.nd, h.sm⟩
theorem RdS.set (h : RdS C R rd many done ps b O) (hx : x ∉ rd :: ps.map (·.1)) : RdS C R rd many done ps b (oset O x c) :=
  h.fr (O' := oset O x c) (as := [x]) (Fr.refl.set (.inl (by simp))) fun y hy => by
    simp only [List.mem_singleton] at hy; subst hy; exact hx
theorem RdS.new (h : RdS C R rd many done ps b O) (hx : O x = none) : x ∉ rd :: ps.map (·.1) := by
  intro q
  rcases List.mem_cons.mp q with q | q
  · subst q; rw [h.hr] at hx; cases hx
  · obtain ⟨p, hp, rfl⟩ := List.mem_map.mp q
    rw [h.hp p hp] at hx; cases hx
theorem RdS.blk (h : RdS C R rd many done ps b O) : RdS C R rd many done ps b' (oset O rd (RdC C many done ps b')) := by
  obtain ⟨h1, h2, h3, h4⟩ := h
  refine ⟨oset_same, fun q hq => ?_, h3, h4⟩
  have e2 : q.1 ≠ rd := fun e => (List.nodup_cons.mp h3).1 (e ▸ List.mem_map_of_mem hq)
  rw [oset_ne e2]; exact h2 q hq
end
/-- the states of the loops -/
structure Bx where
  acc : List DV
  dn : List Addr
  p : List (Addr × NW)
  bs : List NW
  vs : List DV
  O : Own
  S : DSt
structure Px where
  pre : List Wd
  qs : List Par
  acc : List DV
  O : Own
structure Ux where
  pre : List Wd
  qs : List Us
  acc : List DV
  O : Own
  S : DSt
/-- a comprehension, by what is left -/
theorem lcW_rem {α : Type} {ow : Bool} {b : DV → DSt → Option DSt} {tt : DTT} {te : DTE} {S : DSt} {Q : DVK} {f : α → DV} (I : List α → List DV → Own → Prop) : ∀ (xs : List α) (acc : List DV) (O : Own), I xs acc O → acc.length + xs.length < 16000000 →
    (∀ x xs acc O (R : DVK) (R2 : Own → Prop), I (x :: xs) acc O → (∀ y O', I xs (acc ++ [y]) O' → R y O') → (∀ O', I xs acc O' → R2 O') → onSome (b (f x) S) fun S2 => tt S2 O fun c O2 => if c = true then te S2 O2 R else R2 O2) →
    (∀ acc' O, I [] acc' O → acc'.length ≤ acc.length + xs.length → endLc ow Q acc' O) → lcW ow b tt te S Q (xs.map f) acc O
  | [], acc, O, h, _, _, k => k acc O h (Nat.le_refl _)
  | x :: xs, acc, O, h, hl, hs, k => by
    rw [List.length_cons] at hl
    rw [List.map_cons]
    unfold lcW
    refine hs x xs acc O _ _ h (fun y O' h' => ⟨by omega, ?_⟩) (fun O' h' => ?_)
    · exact lcW_rem I xs (acc ++ [y]) O' h' (by rw [List.length_append]; simp; omega) hs fun acc' O h2 h3 => k acc' O h2 (by rw [List.length_append] at h3; simp at h3 ⊢; omega)
    · exact lcW_rem I xs acc O' h' (by omega) hs fun acc' O h2 h3 => k acc' O h2 (by simp; omega)
end W1
namespace W1
open PySem PySem.Spec PyProof.Rows L2 TL DL
theorem row_notend1 {n : Int} {ws : List Wd} (h : ws ≠ []) : ¬ ((1 : Nat) : Int) = ((((ws.map (encW n)).length + 1 : Nat)) : Int) := by
  cases ws with
  | nil => exact absurd rfl h
  | cons t ws => simp; omega
theorem get_rd2 {done l : List Addr} {x : Addr} : (List.map DV.ref (done ++ x :: l))[done.length]? = some (.ref x) := by
  rw [List.getElem?_map, List.getElem?_append_right (Nat.le_refl _), Nat.sub_self]
  rfl
theorem rd_next2 {C x : Addr} {many : Int} {n : Nat} {done : List Addr} {ps : List (Addr × NW)} : Cell.ins C (rdF many (List.map DV.ref (done ++ x :: ps.map (fun x => x.1))) ((done.length : Int) + 1) (n : Int)) = RdC C many (done ++ [x]) ps n := by
  unfold RdC
  simp
theorem ptail_len : ∀ {ps : List Par}, (ptail ps).length = 3 * ps.length
  | [] => rfl
  | p :: ps => by
    show (sg "," p.1 :: (parW p ++ ptail ps)).length = _
    rw [List.length_cons, List.length_append, ptail_len, List.length_cons]
    show 2 + 3 * ps.length + 1 = _
    omega
theorem parsW_len {ps : List Par} : (parsW ps).length ≤ 3 * ps.length := by
  cases ps with
  | nil => exact Nat.le_refl _
  | cons p ps =>
    rw [parsW, List.length_append, ptail_len, List.length_cons]
    show 2 + _ ≤ _
    omega
theorem nodup_snoc {α : Type} {l : List α} {x : α} (h : l.Nodup) (hx : x ∉ l) : (l ++ [x]).Nodup := by
  rw [List.nodup_append]
  exact ⟨h, by simp, fun a ha b hb => by simp only [List.mem_singleton] at hb; subst hb; rintro rfl; exact hx ha⟩
theorem Tolds.len : ∀ {a : List NW} {vs : List DV}, Tolds a vs → vs.length ≤ a.length
  | _, _, .nil => Nat.le_refl _
  | _, _, .cons h1 h2 => by
    obtain ⟨k, ws, r, rfl, _, _⟩ := h1.hd
    have := h2.len
    simp only [List.length_cons, List.length_append]; omega
theorem fr_nil {O O' : Own} {as : List Addr} (h : Fr O O' as) (hn : ∀ a ∈ as, O a = none) : Fr O O' [] := fun b _ hb => h b (fun q => hb (hn b q)) hb
theorem dotw_len {ts : List Wd} {f m : Str} {c : Nat} (h : DotW ts f m c) : ts.length ≤ 3 := by cases h <;> simp
theorem row_end {n : Int} {pre : List Wd} : ((((pre ++ []).map (encW n)).length : Nat) : Int) = (pre.length : Int) := by simp
theorem row_notend {n : Int} {pre ws : List Wd} (h : ws ≠ []) : ¬ (pre.length : Int) = ((((pre ++ ws).map (encW n)).length : Nat) : Int) := by
  cases ws with
  | nil => exact absurd rfl h
  | cons t ws => simp; omega
end W1

set_option Elab.async false
set_option linter.all false
set_option maxRecDepth 100000
namespace W1
open PySem PySem.Spec PyProof.Rows L2 TL DL
/-! ### the reader of a row, as a function: what is told and what is left, or where it can't go on -/
inductive RR (α : Type) where
  | ok (a : α) (r : List Wd) | bad (r : List Wd) | out
def RR.bind {α β : Type} (x : RR α) (f : α → List Wd → RR β) : RR β :=
  match x with
  | .ok a r => f a r
  | .bad r => .bad r
  | .out => .out
section
variable {α β : Type} {f : α → List Wd → RR β} {a : α} {r : List Wd} {x : RR α} {y : RR β}
theorem RR.b_ok : (RR.ok a r).bind f = f a r := rfl
theorem RR.b_bad : (RR.bad r : RR α).bind f = .bad r := rfl
theorem RR.b_out : (RR.out : RR α).bind f = .out := rfl
theorem RR.ne (h : x.bind f = y) (hy : y ≠ .out) : x ≠ .out := by
  rintro rfl; exact hy h.symm
end
def tkM (tot : Nat) : List Wd → RR Wd
  | [] => .bad []
  | t :: r => if tot - (r.length + 1) < 60 then .ok t r else .bad (t :: r)
def tk1M (tot : Nat) (xs : List Str) (r : List Wd) : RR Wd := if isNx xs r.head? = true then tkM tot r else .bad r
def tkNM (tot : Nat) (r : List Wd) : RR Wd := if isKd "name" r.head? = true then tkM tot r else .bad r
def goM (tot dp : Nat) (r : List Wd) : RR Wd := if dp = 8 then .bad r else tkM tot r
def endM : List Wd → RR Unit
  | [] => .ok () []
  | t :: r => .bad (t :: r)
def intOf (w : List Nat) : Int := (PySem.intText? (ofL w)).getD 0
def loopM (tot : Nat) (n : Int) (rd : List Wd → RR DV) (ops : List Str) : Nat → DV → List Wd → RR DV
  | 0, _, _ => .out
  | k + 1, v, r => if isNx ops r.head? = true then (tkM tot r).bind fun t r1 => (rd r1).bind fun u r2 => loopM tot n rd ops k (.tup [.str (ofL t.2.1), plW n t, v, u]) r2 else .ok v r
def argsM (tot : Nat) (rd : List Wd → RR DV) : Nat → List DV → List Wd → RR (List DV)
  | 0, _, _ => .out
  | k + 1, acc, r => if isNx [","] r.head? = true then (tkM tot r).bind fun _ r1 => (rd r1).bind fun u r2 => argsM tot rd k (acc ++ [u]) r2 else .ok acc r
def dotM (tot : Nat) (n : Int) (r : List Wd) : RR (Str × Str × DV) :=
  (tkNM tot r).bind fun t r1 => if isNx ["."] r1.head? = true then (tkM tot r1).bind fun _ r2 => (tkNM tot r2).bind fun t2 r3 => .ok (ofL t.2.1, ofL t2.2.1, plW n t) r3 else .ok ("", ofL t.2.1, plW n t) r1
def handM (tot dp : Nat) (rd : List Wd → RR DV) (r : List Wd) : RR (List DV) :=
  (goM tot dp r).bind fun _ r1 => (if isNx [")"] r1.head? = true then .ok [] r1 else (rd r1).bind fun v r2 => argsM tot rd (r2.length + 1) [v] r2).bind fun vs r2 => (tk1M tot [")"] r2).bind fun _ r3 => .ok vs r3
def mR (tot : Nat) (n : Int) : Nat → Nat → Nat → List Wd → RR DV
  | 0, _, _, _ => .out
  | f + 1, 2, dp, r => if isNx ["not"] r.head? = true then (goM tot dp r).bind fun t r1 => (mR tot n f 2 (dp + 1) r1).bind fun v r2 => .ok (.tup [.str "not", plW n t, v]) r2 else mR tot n f 3 dp r
  | f + 1, 3, dp, r => (mR tot n f 4 dp r).bind fun v r1 => if isNx (opsAt 3) r1.head? = true then (tkM tot r1).bind fun t r2 => (mR tot n f 4 dp r2).bind fun u r3 => .ok (.tup [.str (ofL t.2.1), plW n t, v, u]) r3 else .ok v r1
  | f + 1, 6, dp, r => if isNx ["-"] r.head? = true then (goM tot dp r).bind fun t r1 => (mR tot n f 6 (dp + 1) r1).bind fun v r2 => .ok (.tup [.str "neg", plW n t, v]) r2 else mR tot n f 7 dp r
  | f + 1, 7, dp, r =>
    if isKd "num" r.head? = true then (tkM tot r).bind fun t r1 => .ok (.tup [.str "num", plW n t, .int (intOf t.2.1)]) r1
    else if isNx ["yes", "no"] r.head? = true then (tkM tot r).bind fun t r1 => .ok (.tup [.str "truth", plW n t, .bl (decide (ofL t.2.1 = "yes"))]) r1
    else if isNx ["("] r.head? = true then (goM tot dp r).bind fun _ r1 => (mR tot n f 0 (dp + 1) r1).bind fun v r2 => (tk1M tot [")"] r2).bind fun _ r3 => .ok v r3
    else (dotM tot n r).bind fun p r1 => if isNx ["("] r1.head? = true then (handM tot dp (mR tot n f 0 (dp + 1)) r1).bind fun vs r2 => .ok (.tup [.str "call", p.2.2, .str p.1, .str p.2.1, .tup vs]) r2 else .ok (.tup [.str "name", p.2.2, .str p.1, .str p.2.1]) r1
  | f + 1, l, dp, r => (mR tot n f (l + 1) dp r).bind fun v r1 => loopM tot n (mR tot n f (l + 1) dp) (opsAt l) (r1.length + 1) v r1
def callM (tot : Nat) (n : Int) (f : Nat) (r : List Wd) : RR DV :=
  (dotM tot n r).bind fun p r1 => if isNx ["("] r1.head? = true then (handM tot 0 (mR tot n f 0 1) r1).bind fun vs r2 => .ok (.tup [.str "call", p.2.2, .str p.1, .str p.2.1, .tup vs]) r2 else .bad r1
/-! ### the row as it stands -/
def RO (c : Addr) (n : Int) (all r : List Wd) (d : Nat) (a : Addr) (O : Own) : Prop := ∃ pre, pre ++ r = all ∧ O a = some (RwC c n pre r d)
structure NumOk (all : List Wd) : Prop where
  ne : all ≠ []
  len : all.length ≤ 5000
  ok : ∀ t ∈ all, t.2.1.length ≤ 640 ∧ (t.1 = "num" → (PySem.intText? (ofL t.2.1)).isSome = true)
def hereP (n : Int) (all : List Wd) : List Wd → DV
  | t :: _ => plW n t
  | [] => match all.getLast? with
    | some t => .tup [.int n, .int ((t.2.2 : Int) + 1 + (t.2.1.length : Int))]
    | none => .non
def flt (p : DV) : Option (List (Str × DV)) := some [("why", .str "tree"), ("place", p), ("file", .str ""), ("stage", .str "tree")]
theorem RO.set {c a : Addr} {n : Int} {all r : List Wd} {d : Nat} {O : Own} {pre : List Wd} (h : pre ++ r = all) : RO c n all r d a (oset O a (RwC c n pre r d)) := ⟨pre, h, oset_same⟩
/-- the post of a reading -/
def PostK {α : Type} (enc : α → DV) (c : Addr) (n : Int) (all : List Wd) (d : Nat) (a : Addr) (O : Own) (res : RR α) (Q : DVK) : Prop := ∀ v r', res = .ok v r' → ∀ O', Fr O O' [a] → RO c n all r' d a O' → Q (enc v) O'
def PostX {α : Type} (cF : Addr) (n : Int) (all : List Wd) (a : Addr) (O : Own) (res : RR α) (E : DXK) : Prop := ∀ r', res = .bad r' → ∀ O', Fr O O' [a] → E cF (flt (hereP n all r')) O'
end W1
namespace W1
open PySem PySem.Spec PyProof.Rows L2 TL DL
section
variable {tot f dp : Nat} {n : Int} {r : List Wd}
theorem mR_0 : mR tot n (f + 1) 0 dp r = (mR tot n f 1 dp r).bind fun v r1 => loopM tot n (mR tot n f 1 dp) (opsAt 0) (r1.length + 1) v r1 := rfl
theorem mR_1 : mR tot n (f + 1) 1 dp r = (mR tot n f 2 dp r).bind fun v r1 => loopM tot n (mR tot n f 2 dp) (opsAt 1) (r1.length + 1) v r1 := rfl
theorem mR_4 : mR tot n (f + 1) 4 dp r = (mR tot n f 5 dp r).bind fun v r1 => loopM tot n (mR tot n f 5 dp) (opsAt 4) (r1.length + 1) v r1 := rfl
theorem mR_5 : mR tot n (f + 1) 5 dp r = (mR tot n f 6 dp r).bind fun v r1 => loopM tot n (mR tot n f 6 dp) (opsAt 5) (r1.length + 1) v r1 := rfl
theorem mR_2 : mR tot n (f + 1) 2 dp r = if isNx ["not"] r.head? = true then (goM tot dp r).bind fun t r1 => (mR tot n f 2 (dp + 1) r1).bind fun v r2 => .ok (.tup [.str "not", plW n t, v]) r2 else mR tot n f 3 dp r := rfl
theorem mR_6 : mR tot n (f + 1) 6 dp r = if isNx ["-"] r.head? = true then (goM tot dp r).bind fun t r1 => (mR tot n f 6 (dp + 1) r1).bind fun v r2 => .ok (.tup [.str "neg", plW n t, v]) r2 else mR tot n f 7 dp r := rfl
theorem mR_3 : mR tot n (f + 1) 3 dp r = (mR tot n f 4 dp r).bind fun v r1 => if isNx (opsAt 3) r1.head? = true then (tkM tot r1).bind fun t r2 => (mR tot n f 4 dp r2).bind fun u r3 => .ok (.tup [.str (ofL t.2.1), plW n t, v, u]) r3 else .ok v r1 := rfl
theorem mR_7 : mR tot n (f + 1) 7 dp r =
    if isKd "num" r.head? = true then (tkM tot r).bind fun t r1 => .ok (.tup [.str "num", plW n t, .int (intOf t.2.1)]) r1
    else if isNx ["yes", "no"] r.head? = true then (tkM tot r).bind fun t r1 => .ok (.tup [.str "truth", plW n t, .bl (decide (ofL t.2.1 = "yes"))]) r1
    else if isNx ["("] r.head? = true then (goM tot dp r).bind fun _ r1 => (mR tot n f 0 (dp + 1) r1).bind fun v r2 => (tk1M tot [")"] r2).bind fun _ r3 => .ok v r3
    else (dotM tot n r).bind fun p r1 => if isNx ["("] r1.head? = true then (handM tot dp (mR tot n f 0 (dp + 1)) r1).bind fun vs r2 => .ok (.tup [.str "call", p.2.2, .str p.1, .str p.2.1, .tup vs]) r2 else .ok (.tup [.str "name", p.2.2, .str p.1, .str p.2.1]) r1 := rfl
theorem loopM_s {rd : List Wd → RR DV} {ops : List Str} {k : Nat} {v : DV} : loopM tot n rd ops (k + 1) v r = if isNx ops r.head? = true then (tkM tot r).bind fun t r1 => (rd r1).bind fun u r2 => loopM tot n rd ops k (.tup [.str (ofL t.2.1), plW n t, v, u]) r2 else .ok v r := rfl
theorem argsM_s {rd : List Wd → RR DV} {k : Nat} {acc : List DV} : argsM tot rd (k + 1) acc r = if isNx [","] r.head? = true then (tkM tot r).bind fun _ r1 => (rd r1).bind fun u r2 => argsM tot rd k (acc ++ [u]) r2 else .ok acc r := rfl
end
theorem last_w {n : Int} {pre : List Wd} (h : pre ≠ []) : ∃ t, pre.getLast? = some t ∧ atI (pre.map (encW n)) (-1) = some (.tup [.str t.1, .str (ofL t.2.1), plW n t]) := by
  cases e : pre.getLast? with
  | none => exact absurd (List.getLast?_eq_none_iff.mp e) h
  | some t =>
    refine ⟨t, rfl, ?_⟩
    rw [atI_neg1 (by simpa using h), List.getLast?_map, e]
    rfl
theorem tkM_c {tot : Nat} {t : Wd} {r : List Wd} : tkM tot (t :: r) = if tot - (r.length + 1) < 60 then .ok t r else .bad (t :: r) := rfl
theorem tkM_ok {tot : Nat} {t : Wd} {r r' : List Wd} (h : tkM tot r = .ok t r') : r = t :: r' := by
  cases r with
  | nil => cases h
  | cons x xs =>
    rw [tkM_c] at h
    split at h
    · cases h; rfl
    · cases h
theorem take_tot {pre r : List Wd} {t : Wd} : (pre ++ t :: r).length - (r.length + 1) = pre.length := by simp
structure Lx where
  k : Nat
  v : DV
  r : List Wd
  O : Own
  S : DSt
structure Ax where
  k : Nat
  acc : List DV
  r : List Wd
  O : Own
end W1

set_option Elab.async false
set_option linter.all false
set_option maxRecDepth 100000
namespace W1
open PySem PySem.Spec PyProof.Rows L2 TL DL
/-! ### the reader of rows, as a function -/
inductive BR (α : Type) where
  | ok (a : α) (r : List NW) | bad (p : DV) | out
def BR.bind {α β : Type} (x : BR α) (f : α → List NW → BR β) : BR β :=
  match x with
  | .ok a r => f a r
  | .bad r => .bad r
  | .out => .out
/-- a row's reading, within the rows' -/
def RR.at {α β : Type} (x : RR α) (k : Nat) (ws : List Wd) (f : α → List Wd → BR β) : BR β :=
  match x with
  | .ok a r => f a r
  | .bad r => .bad (hereP ((k : Int) + 1) ws r)
  | .out => .out
section
variable {α β : Type} {f : α → List NW → BR β} {g : α → List Wd → BR β} {a : α} {r : List NW} {s : List Wd} {p : DV} {x : BR α} {z : RR α} {y : BR β} {k : Nat} {ws : List Wd}
theorem BR.b_ok : (BR.ok a r).bind f = f a r := rfl
theorem BR.b_bad : (BR.bad p : BR α).bind f = .bad p := rfl
theorem BR.ne (h : x.bind f = y) (hy : y ≠ .out) : x ≠ .out := by
  rintro rfl; exact hy h.symm
theorem RR.a_ok : (RR.ok a s).at k ws g = g a s := rfl
theorem RR.a_bad : (RR.bad s : RR α).at k ws g = .bad (hereP ((k : Int) + 1) ws s) := rfl
theorem RR.ane (h : z.at k ws g = y) (hy : y ≠ .out) : z ≠ .out := by
  rintro rfl; exact hy h.symm
end
abbrev FU : Nat := 72
def eM (k : Nat) (ws r : List Wd) : RR DV := mR ws.length ((k : Int) + 1) FU 0 0 r
def pl (k : Nat) (t : Wd) : DV := plW ((k : Int) + 1) t
def partM (k : Nat) (ws r : List Wd) : RR DV := (tkNM ws.length r).bind fun t r1 => (tk1M ws.length ["num", "yes"] r1).bind fun t2 r2 => .ok (.tup [pl k t, .str (ofL t.2.1), .str (ofL t2.2.1)]) r2
def partsL (k : Nat) (ws : List Wd) : Nat → List DV → List Wd → RR (List DV)
  | 0, acc, r => .ok acc r
  | j + 1, acc, r => if isNx [","] r.head? = true then (tkM ws.length r).bind fun _ r1 => (partM k ws r1).bind fun p r2 => partsL k ws j (acc ++ [p]) r2 else .ok acc r
def blkL (one : NW → List NW → BR DV) (many : Int) (ends : List Str) : Nat → List DV → List NW → BR (List DV × Str × DV)
  | 0, _, _ => .out
  | _ + 1, _, [] => .bad (.tup [.int (many + 1), .int 1])
  | j + 1, acc, (k, ws) :: rest => if isNx ends ws.head? = true then (tkM ws.length ws).at k ws fun t r1 => (endM r1).at k ws fun _ _ => .ok (acc, ofL t.2.1, pl k t) rest else (one (k, ws) rest).bind fun v rest' => blkL one many ends j (acc ++ [v]) rest'
/-- what is behind an if's, a while's word -/
def brM (dr : NW → List NW → BR DV) (many : Int) (w : Str) (p : DV) (k : Nat) (ws r1 : List Wd) (rest : List NW) : BR DV :=
  (eM k ws r1).at k ws fun v r2 => (endM r2).at k ws fun _ _ =>
    (blkL dr many (if w = "if" then ["end", "else"] else ["end"]) (rest.length + 1) [] rest).bind fun b rest1 =>
      if b.2.1 = "else" then (blkL dr many ["end"] (rest1.length + 1) [] rest1).bind fun c rest2 => .ok (if w = "if" then .tup [.str w, p, v, .tup b.1, .tup c.1] else .tup [.str w, p, v, .tup b.1]) rest2
      else .ok (if w = "if" then .tup [.str w, p, v, .tup b.1, .tup []] else .tup [.str w, p, v, .tup b.1]) rest1
def deedM (many : Int) : Nat → Nat → NW → List NW → BR DV
  | 0, _, _, _ => .out
  | g + 1, b, (k, ws), rest =>
    if isKd "name" ws.head? = true then (tkM ws.length ws).at k ws fun t r1 => (tk1M ws.length ["="] r1).at k ws fun _ r2 => (eM k ws r2).at k ws fun v r3 => (endM r3).at k ws fun _ _ => .ok (.tup [.str "set", pl k t, .str (ofL t.2.1), v]) rest
    else if isNx ["let", "if", "while", "give", "say", "do"] ws.head? = false then .bad (hereP ((k : Int) + 1) ws ws)
    else if isNx ["if", "while"] ws.head? = true ∧ b = 6 then .bad (hereP ((k : Int) + 1) ws ws)
    else (tkM ws.length ws).at k ws fun t r1 =>
      if ofL t.2.1 = "let" then (tkNM ws.length r1).at k ws fun t2 r2 => (tk1M ws.length ["="] r2).at k ws fun _ r3 => (eM k ws r3).at k ws fun v r4 => (endM r4).at k ws fun _ _ => .ok (.tup [.str "let", pl k t2, .str (ofL t2.2.1), v]) rest
      else if ofL t.2.1 = "if" ∨ ofL t.2.1 = "while" then brM (deedM many g (b + 1)) many (ofL t.2.1) (pl k t) k ws r1 rest
      else if ofL t.2.1 = "give" ∧ r1 = [] then .ok (.tup [.str "give", pl k t, .non]) rest
      else if ofL t.2.1 = "do" then (callM ws.length ((k : Int) + 1) FU r1).at k ws fun v r2 => (endM r2).at k ws fun _ _ => .ok (.tup [.str (ofL t.2.1), pl k t, v]) rest
      else (eM k ws r1).at k ws fun v r2 => (endM r2).at k ws fun _ _ => .ok (.tup [.str (ofL t.2.1), pl k t, v]) rest
def defU (many : Int) (g : Nat) (k : Nat) (ws : List Wd) (p : DV) (o : Bool) (n : Str) (rest : List NW) (ps : List DV) (kd : Str) (r4 : List Wd) : BR DV :=
  (endM r4).at k ws fun _ _ => (blkL (deedM many g 0) many ["end"] (rest.length + 1) [] rest).bind fun b rest1 => .ok (.tup [.str "def", p, .bl o, .str n, .tup ps, .str kd, .tup b.1, b.2.2]) rest1
def defT (many : Int) (g : Nat) (k : Nat) (ws : List Wd) (p : DV) (o : Bool) (n : Str) (rest : List NW) (ps : List DV) (r2 : List Wd) : BR DV :=
  (tk1M ws.length [")"] r2).at k ws fun _ r3 =>
    (if isNx ["num", "yes"] r3.head? = true then (tkM ws.length r3).bind fun t r4 => .ok (ofL t.2.1) r4 else .ok "" r3).at k ws fun kd r4 => defU many g k ws p o n rest ps kd r4
def defM (many : Int) (g : Nat) (k : Nat) (ws r : List Wd) (p : DV) (o : Bool) (n : Str) (rest : List NW) : BR DV :=
  (tk1M ws.length ["("] r).at k ws fun _ r1 =>
    (if isNx [")"] r1.head? = true then .ok [] r1 else (partM k ws r1).bind fun q r2 => partsL k ws 5 [q] r2).at k ws fun ps r2 => defT many g k ws p o n rest ps r2
def oneM (many : Int) (g : Nat) (o : Bool) (k : Nat) (ws r : List Wd) (rest : List NW) : BR DV :=
  (tk1M ws.length ["const", "keep", "def"] r).at k ws fun t r1 => (tkNM ws.length r1).at k ws fun t2 r2 =>
    if ofL t.2.1 = "def" then defM many g k ws r2 (pl k t2) o (ofL t2.2.1) rest
    else (tk1M ws.length ["="] r2).at k ws fun _ r3 => (eM k ws r3).at k ws fun v r4 => (endM r4).at k ws fun _ _ => .ok (.tup [.str (ofL t.2.1), pl k t2, .bl o, .str (ofL t2.2.1), v]) rest
def toldM (many : Int) (g : Nat) : List NW → BR DV
  | [] => .bad (.tup [.int (many + 1), .int 1])
  | (k, ws) :: rest => if isNx ["out"] ws.head? = true then (tkM ws.length ws).at k ws fun _ r1 => oneM many g true k ws r1 rest else oneM many g false k ws ws rest
def useL (k : Nat) (ws : List Wd) : Nat → List DV → List Wd → RR (List DV)
  | 0, _, _ => .out
  | j + 1, acc, r => if isNx [","] r.head? = true then (tkM ws.length r).bind fun _ r1 => (tkNM ws.length r1).bind fun t r2 => useL k ws j (acc ++ [.tup [pl k t, .str (ofL t.2.1)]]) r2 else .ok acc r
def usesM : List DV → List NW → BR (List DV)
  | acc, [] => .ok acc []
  | acc, (k, ws) :: rest => if isNx ["use"] ws.head? = true then (tkM ws.length ws).at k ws fun _ r1 => (tkNM ws.length r1).at k ws fun t r2 => (useL k ws (r2.length + 1) (acc ++ [.tup [pl k t, .str (ofL t.2.1)]]) r2).at k ws fun acc' r3 => (endM r3).at k ws fun _ _ => usesM acc' rest else .ok acc ((k, ws) :: rest)
def toldsM (many : Int) (g : Nat) : Nat → List DV → List NW → BR (List DV)
  | 0, _, _ => .out
  | j + 1, acc, rs => match rs with
    | [] => .ok acc []
    | _ :: _ => (toldM many g rs).bind fun v rest => toldsM many g j (acc ++ [v]) rest
def treeM (many : Int) (g : Nat) (rs : List NW) : BR DV := (usesM [] rs).bind fun us rest => (toldsM many g (rest.length + 1) [] rest).bind fun ts r => .ok (.tup [.tup us, .tup ts]) r
/-! ### posts -/
def PostBK {α : Type} (enc : α → DV) (c R rd : Addr) (many : Int) (b : Nat) (ps : List (Addr × NW)) (fr : List Addr) (O : Own) (res : BR α) (Q : DVK) : Prop := ∀ v rest', res = .ok v rest' → ∀ O' dn' ps', RdS c R rd many dn' ps' b O' → ps'.map (·.2) = rest' → (∀ p ∈ ps', p ∈ ps) → Fr O O' fr → Q (enc v) O'
def PostBX {α : Type} (cF : Addr) (fr : List Addr) (O : Own) (res : BR α) (E : DXK) : Prop := ∀ p, res = .bad p → ∀ O', Fr O O' fr → E cF (flt p) O'
theorem BR.ne' {α β γ : Type} {x : BR α} {f : α → List NW → BR β} {h : β → List NW → BR γ} {y : BR γ} (e : (x.bind f).bind h = y) : x.bind (fun a r => (f a r).bind h) = y := by
  cases x <;> exact e
theorem RdS.new' {C R rd x : Addr} {many : Int} {done : List Addr} {ps : List (Addr × NW)} {b : Nat} {O : Own} (_ : RdS C R rd many done ps b O) (h1 : x ≠ rd) (h2 : ∀ y ∈ ps.map (·.1), x ≠ y) : x ∉ rd :: ps.map (·.1) := fun q => by
  rcases List.mem_cons.mp q with q | q
  · exact h1 q
  · exact h2 _ q rfl
theorem RdS.fr1 {C R rd x : Addr} {many : Int} {done : List Addr} {ps : List (Addr × NW)} {b : Nat} {O O' : Own} (h : RdS C R rd many done ps b O) (f : Fr O O' [x]) (hx : x ∉ rd :: ps.map (·.1)) : RdS C R rd many done ps b O' :=
  h.fr f fun y hy => by simp only [List.mem_singleton] at hy; subst hy; exact hx
def AllOk (ps : List (Addr × NW)) : Prop := ∀ p ∈ ps, NumOk p.2.2
theorem deedM_s {many : Int} {g b k : Nat} {ws : List Wd} {rest : List NW} : deedM many (g + 1) b (k, ws) rest =
    if isKd "name" ws.head? = true then (tkM ws.length ws).at k ws fun t r1 => (tk1M ws.length ["="] r1).at k ws fun _ r2 => (eM k ws r2).at k ws fun v r3 => (endM r3).at k ws fun _ _ => .ok (.tup [.str "set", pl k t, .str (ofL t.2.1), v]) rest
    else if isNx ["let", "if", "while", "give", "say", "do"] ws.head? = false then .bad (hereP ((k : Int) + 1) ws ws)
    else if isNx ["if", "while"] ws.head? = true ∧ b = 6 then .bad (hereP ((k : Int) + 1) ws ws)
    else (tkM ws.length ws).at k ws fun t r1 =>
      if ofL t.2.1 = "let" then (tkNM ws.length r1).at k ws fun t2 r2 => (tk1M ws.length ["="] r2).at k ws fun _ r3 => (eM k ws r3).at k ws fun v r4 => (endM r4).at k ws fun _ _ => .ok (.tup [.str "let", pl k t2, .str (ofL t2.2.1), v]) rest
      else if ofL t.2.1 = "if" ∨ ofL t.2.1 = "while" then brM (deedM many g (b + 1)) many (ofL t.2.1) (pl k t) k ws r1 rest
      else if ofL t.2.1 = "give" ∧ r1 = [] then .ok (.tup [.str "give", pl k t, .non]) rest
      else if ofL t.2.1 = "do" then (callM ws.length ((k : Int) + 1) FU r1).at k ws fun v r2 => (endM r2).at k ws fun _ _ => .ok (.tup [.str (ofL t.2.1), pl k t, v]) rest
      else (eM k ws r1).at k ws fun v r2 => (endM r2).at k ws fun _ _ => .ok (.tup [.str (ofL t.2.1), pl k t, v]) rest := rfl
theorem blkL_s {one : NW → List NW → BR DV} {many : Int} {ends : List Str} {j k : Nat} {acc : List DV} {ws : List Wd} {rest : List NW} : blkL one many ends (j + 1) acc ((k, ws) :: rest) = if isNx ends ws.head? = true then (tkM ws.length ws).at k ws fun t r1 => (endM r1).at k ws fun _ _ => .ok (acc, ofL t.2.1, pl k t) rest else (one (k, ws) rest).bind fun v rest' => blkL one many ends j (acc ++ [v]) rest' := rfl
theorem blkL_n {one : NW → List NW → BR DV} {many : Int} {ends : List Str} {j : Nat} {acc : List DV} : blkL one many ends (j + 1) acc [] = .bad (.tup [.int (many + 1), .int 1]) := rfl
theorem isNx_mem {xs : List Str} {r r' : List Wd} {t : Wd} {tot : Nat} (h : isNx xs r.head? = true) (e : tkM tot r = .ok t r') : ofL t.2.1 ∈ xs := by
  have := tkM_ok e
  subst this
  simp only [List.head?_cons, isNx, Bool.and_eq_true, decide_eq_true_eq] at h
  exact h.2
theorem isNx_not {xs ys : List Str} {r r' : List Wd} {t : Wd} {tot : Nat} (h : isNx xs r.head? = false) (h2 : isNx ys r.head? = true) (e : tkM tot r = .ok t r') : ofL t.2.1 ∉ xs := by
  have := tkM_ok e
  subst this
  intro q
  simp only [List.head?_cons, isNx, Bool.and_eq_true, decide_eq_true_eq] at h2
  have : isNx xs (some t) = true := by
    simp only [isNx, Bool.and_eq_true, decide_eq_true_eq]
    exact ⟨h2.1, q⟩
  rw [List.head?_cons, this] at h
  cases h
theorem partsL_0 {k : Nat} {ws r : List Wd} {acc : List DV} : partsL k ws 0 acc r = .ok acc r := rfl
theorem partsL_s {k j : Nat} {ws r : List Wd} {acc : List DV} : partsL k ws (j + 1) acc r = if isNx [","] r.head? = true then (tkM ws.length r).bind fun _ r1 => (partM k ws r1).bind fun p r2 => partsL k ws j (acc ++ [p]) r2 else .ok acc r := rfl
theorem useL_s {k j : Nat} {ws r : List Wd} {acc : List DV} : useL k ws (j + 1) acc r = if isNx [","] r.head? = true then (tkM ws.length r).bind fun _ r1 => (tkNM ws.length r1).bind fun t r2 => useL k ws j (acc ++ [.tup [pl k t, .str (ofL t.2.1)]]) r2 else .ok acc r := rfl
theorem toldM_n {many : Int} {g : Nat} : toldM many g [] = .bad (.tup [.int (many + 1), .int 1]) := rfl
theorem toldM_s {many : Int} {g k : Nat} {ws : List Wd} {rest : List NW} : toldM many g ((k, ws) :: rest) = if isNx ["out"] ws.head? = true then (tkM ws.length ws).at k ws fun _ r1 => oneM many g true k ws r1 rest else oneM many g false k ws ws rest := rfl
theorem usesM_n {acc : List DV} : usesM acc [] = .ok acc [] := rfl
theorem usesM_s {acc : List DV} {k : Nat} {ws : List Wd} {rest : List NW} : usesM acc ((k, ws) :: rest) = if isNx ["use"] ws.head? = true then (tkM ws.length ws).at k ws fun _ r1 => (tkNM ws.length r1).at k ws fun t r2 => (useL k ws (r2.length + 1) (acc ++ [.tup [pl k t, .str (ofL t.2.1)]]) r2).at k ws fun acc' r3 => (endM r3).at k ws fun _ _ => usesM acc' rest else .ok acc ((k, ws) :: rest) := rfl
theorem toldsM_n {many : Int} {g j : Nat} {acc : List DV} : toldsM many g (j + 1) acc [] = .ok acc [] := rfl
theorem toldsM_s {many : Int} {g j : Nat} {acc : List DV} {x : NW} {rs : List NW} : toldsM many g (j + 1) acc (x :: rs) = (toldM many g (x :: rs)).bind fun v rest => toldsM many g j (acc ++ [v]) rest := rfl
theorem tkNM_ok {tot : Nat} {t : Wd} {r r' : List Wd} (h : tkNM tot r = .ok t r') : r = t :: r' := by
  unfold tkNM at h
  split at h
  · exact tkM_ok h
  · cases h
structure Nx where
  j : Nat
  acc : List DV
  r : List Wd
  O : Own
  S : DSt
structure Kx where
  j : Nat
  acc : List DV
  dn : List Addr
  p : List (Addr × NW)
  O : Own
  S : DSt
/-- what the law asks of a text's tree -/
def GoodT (res : BR DV) (pv : DV) : Prop := (pv = .non ∧ ∃ us ts r, res = .ok (.tup [.tup us, .tup ts]) r ∧ PureS 40 (.tup us)) ∨ ∃ a b : Int, pv = .tup [.int a, .int b] ∧ res = .bad pv
theorem GoodT.ne {res : BR DV} {pv : DV} (h : GoodT res pv) : res ≠ .out := by
  rcases h with ⟨_, us, ts, r, rfl, _⟩ | ⟨a, b, _, rfl⟩
  · intro q; cases q
  · intro q; cases q
theorem ne_refused {n : Nat} {us : List DV} {O : Own} {Q : DVK} (h : PureS n (.tup us)) (hn : n ≤ 60) (k : Q (.bl true) O) : dEqP true (.tup [.tup us]) (.tup [.str "refused"]) O Q := by
  obtain ⟨p, e, h1, h2⟩ := pure_py h
  have e1 : toPy (.tup [.tup us]) = some (.tuple [p]) := by
    simp only [toPy, toPys] at e ⊢
    rw [e]
  have hp : ∃ ps, p = .tuple ps := by
    simp only [toPy] at e
    cases e2 : toPys us with
    | none => rw [e2] at e; cases e
    | some ps => rw [e2] at e; cases e; exact ⟨ps, rfl⟩
  obtain ⟨ps, rfl⟩ := hp
  unfold dEqP
  refine onSome_of e1 (onSome_of (x := .tuple [.str "refused"]) rfl ⟨?_, by decide +kernel, ?_⟩)
  · refine shaped_of (n := n + 1) ?_ ?_ (by omega)
    · simp only [PyData.canLay0, PyData.canLayAll0] at h1 ⊢
      rw [h1]; rfl
    · show max (PyData.tuple ps).depth 0 + 1 ≤ n + 1
      omega
  · exact k
end W1

set_option Elab.async false
set_option linter.all false
set_option maxRecDepth 100000
namespace W1
open PySem PySem.Spec PyProof.Rows L2 TL DL
/-! ### what is drawn for texts -/
def WX5 : Nat → Ex → Prop
  | 0, e => Atom e
  | d + 1, .num n => n < 1000000
  | d + 1, .truth _ => True
  | d + 1, .name f m => NM0 f ∧ NMW m
  | d + 1, .call f m as => NM0 f ∧ NMW m ∧ as.length ≤ 3 ∧ ∀ a ∈ as, Atom a
  | d + 1, .un _ a => WX5 d a
  | d + 1, .bin op a b => op ∈ binOps ∧ WX5 d a ∧ WX5 d b
theorem WX5_atom {d : Nat} {e : Ex} (h : Atom e) : WX5 d e := by
  cases d with
  | zero => exact h
  | succ d => cases e <;> first | exact h | exact h.elim
def T5 : Nat → Nat
  | 0 => 5
  | d + 1 => max 24 (2 * T5 d + 3)
theorem T5_ge (d : Nat) : 5 ≤ T5 d := by
  cases d with
  | zero => exact Nat.le_refl _
  | succ d => simp only [T5]; omega
theorem T5_two : T5 2 = 51 := rfl
theorem T5_le {d : Nat} (h : d ≤ 2) : T5 d ≤ 51 := by
  have : d = 0 ∨ d = 1 ∨ d = 2 := by omega
  rcases this with rfl | rfl | rfl <;> decide
theorem lev5_of {d : Nat} {e : Ex} (h : WX5 d e) : LevOf (tagOf e) (levE e) := by
  cases e with
  | num n => exact .inr (.inr (.inr ⟨show ("num" : Str) ∈ _ by decide, rfl⟩))
  | truth n => exact .inr (.inr (.inr ⟨show ("truth" : Str) ∈ _ by decide, rfl⟩))
  | name f n => exact .inr (.inr (.inr ⟨show ("name" : Str) ∈ _ by decide, rfl⟩))
  | call f n as => exact .inr (.inr (.inr ⟨show ("call" : Str) ∈ _ by decide, rfl⟩))
  | un neg a =>
    cases neg
    · exact .inr (.inl ⟨rfl, rfl⟩)
    · exact .inr (.inr (.inl ⟨rfl, rfl⟩))
  | bin op a b =>
    cases d with
    | zero => exact h.elim
    | succ d =>
      have := (op_lev h.1).2.1
      exact .inl ⟨h.1, by simp only [levE, tagOf]; omega⟩
mutual
def GR : Nat → Rw → Prop
  | 0, _ => False
  | d + 1, .lt _ n e => NMW n ∧ WX5 2 e
  | d + 1, .one w none => w = "give"
  | d + 1, .one w (some e) => ((w = "give" ∨ w = "say") ∧ WX5 2 e) ∨ (w = "do" ∧ WX5 1 e ∧ ∃ f m as, e = .call f m as)
  | d + 1, .iff t a b => WX5 2 t ∧ a.length ≤ 5 ∧ b.length ≤ 5 ∧ GRs d a ∧ GRs d b
  | d + 1, .whl t a => WX5 2 t ∧ a.length ≤ 5 ∧ GRs d a
def GRs : Nat → List Rw → Prop
  | _, [] => True
  | d, r :: rs => GR d r ∧ GRs d rs
end
theorem grs_app {n : Nat} : ∀ {as bs : List Rw}, GRs n as → GRs n bs → GRs n (as ++ bs)
  | [], bs, _, h => h
  | a :: as, bs, h, h2 => by
    simp only [GRs, List.cons_append] at h ⊢
    exact ⟨h.1, grs_app h.2 h2⟩
theorem grs_mem {d : Nat} : ∀ {as : List Rw}, GRs d as → ∀ e ∈ as, GR d e
  | [], _, e, h => by cases h
  | a :: as, h, e, he => by
    simp only [GRs] at h
    rcases List.mem_cons.mp he with rfl | he
    · exact h.1
    · exact grs_mem h.2 e he
/-- names that are drawn are words -/
theorem isName_word {m : Str} (h : IsName m) : NMW m := by
  obtain ⟨c, l, e, h1, h2, h3⟩ := h
  have k1 : ∀ x ∈ tl (Str.ofString "bfhjpqrtvxz"), x ∈ letters ∧ x ≠ 35 ∧ x ≠ 32 ∧ x ≠ 10 ∧ ∀ s ∈ ownW, (tl s).head? ≠ some x := by decide +kernel
  have k2 : ∀ x ∈ tl (Str.ofString "abdefilmnostuwy"), x ∈ letters ∧ x ≠ 10 := by decide +kernel
  obtain ⟨a1, a2, a3, a4, a5⟩ := k1 c h1
  have al : ∀ x ∈ tl m, x ∈ letters := by
    rw [e]
    intro x hx
    rcases List.mem_cons.mp hx with rfl | hx
    · exact a1
    · exact (k2 x (h2 x hx)).1
  refine ⟨by decide, ⟨c, l, e, a2, a3⟩, by rw [e]; simp; omega, ?_, fun t ht => ?_⟩
  · rw [e]
    intro q
    rcases List.mem_cons.mp q with q | q
    · exact a4 q.symm
    · exact (k2 10 (h2 10 q)).2 rfl
  · have hs : spanIn letters (tl m ++ t) = tl m := span_all al (fun x y hx hy h1 h2 => ht x y hx hy (.inl ⟨h1, h2⟩)) (by rw [e]; simp)
    have hh : (tl m ++ t).head? = some c := by rw [e]; rfl
    have := wordL_name hh a1 (by
      rw [hs, ofL_tl]
      intro hm
      exact a5 m hm (by rw [e]; rfl)) (by rw [hs, e]; simp; omega)
    rw [this, hs]
theorem FN.nm0 {f : Str} (h : FN f) : NM0 f := by
  rcases h with rfl | h
  · exact .inl rfl
  · exact .inr (isName_word h)
/-- what is told -/
def GT : Td → Prop
  | .val w _ n e => (w = "const" ∨ w = "keep") ∧ NMW n ∧ WX5 2 e
  | .dfn _ n ps kd rs => NMW n ∧ ps.length ≤ 3 ∧ (∀ p ∈ ps, NMW p.1 ∧ KN p.2) ∧ (kd = "" ∨ kd = "num" ∨ kd = "yes") ∧ GRs 4 rs ∧ rs.length ≤ 5 ∧ cRs rs ≤ 41
def OgF (e : Str × List Str × List Td) : Prop := e.2.1.length ≤ 3 ∧ (∀ u ∈ e.2.1, IsName u) ∧ e.2.2.length ≤ 4 ∧ ∀ t ∈ e.2.2, GT t
/-! ### texts that are laid -/
def nEf (k : Nat) (wss : List (List Wd)) : List NW := (allE k wss).filter fun p => !p.2.isEmpty
theorem nEf_zero {wss : List (List Wd)} : nonE wss = nEf 0 wss := rfl
theorem nEf_app {k : Nat} {a b : List (List Wd)} : nEf k (a ++ b) = nEf k a ++ nEf (k + a.length) b := by
  unfold nEf
  rw [allE_app, List.filter_append]
theorem nEf_one {k : Nat} {ws : List Wd} {sp : List (List Wd)} (hw : ws ≠ []) (hs : ∀ x ∈ sp, x = []) : nEf k (ws :: sp) = [(k, ws)] := by
  unfold nEf
  simp only [allE]
  rw [List.filter_cons_of_pos (by cases ws <;> simp_all), allE_none hs]
structure TxtW (rows : List Str) (wss : List (List Wd)) : Prop where
  sc : ScanRows rows wss
  ok : ∀ r ∈ rows, (tl r).length ≤ 1000 ∧ 10 ∉ tl r
theorem TxtW.len {rows : List Str} {wss : List (List Wd)} (h : TxtW rows wss) : rows.length = wss.length := scanRows_len h.sc
def LT (a w pr : Addr) (wss : List (List Wd)) (ws : List Wd) (O : Own) : Prop := ∃ c rows row last, O a = some c ∧ Dice c ∧ O w = some (WCell pr row last) ∧ O pr = some (.lst (rows.map DV.str)) ∧ RW row last ws ∧ TxtW rows wss ∧ a ≠ pr ∧ w ≠ pr
section
variable {a w pr p : Addr} {wss : List (List Wd)} {ws : List Wd} {O O' : Own} {c : Cell}
theorem LT.ne (h : LT a w pr wss ws O) (hp : O p = none) : a ≠ p ∧ w ≠ p ∧ pr ≠ p := by
  obtain ⟨_, _, _, _, h1, _, h3, h4, _⟩ := h
  exact ⟨ne_of h1 hp, ne_of h3 hp, ne_of h4 hp⟩
theorem LT.fr (h : LT a w pr wss ws O) (h1 : a ≠ p ∧ w ≠ p ∧ pr ≠ p) : LT a w pr wss ws (oset O p c) := by
  obtain ⟨c', rows, row, last, g1, g2, g3, g4, g5, g6, g7, g8⟩ := h
  exact ⟨c', rows, row, last, by rw [oset_ne h1.1]; exact g1, g2, by rw [oset_ne h1.2.1]; exact g3, by rw [oset_ne h1.2.2]; exact g4, g5, g6, g7, g8⟩
theorem LT.ne' (h : LT a w pr wss ws O) (hp : p ∉ [a, w, pr]) : a ≠ p ∧ w ≠ p ∧ pr ≠ p := by
  simp only [List.mem_cons, List.not_mem_nil, or_false, not_or] at hp
  exact ⟨Ne.symm hp.1, Ne.symm hp.2.1, Ne.symm hp.2.2⟩
theorem line_lt {n : Nat} (h : n < 16000000) : n < sizeLine := DL.lc_line h
theorem LT.dice (h : LT a w pr wss ws O) (haw : a ≠ w) (hc : Dice c) : LT a w pr wss ws (oset O a c) := by
  obtain ⟨_, rows, row, last, g1, g2, g3, g4, g5, g6, g7, g8⟩ := h
  exact ⟨c, rows, row, last, oset_same, hc, by rw [oset_ne (Ne.symm haw)]; exact g3, by rw [oset_ne (Ne.symm g7)]; exact g4, g5, g6, g7, g8⟩
theorem LT.frm (h : LT a w pr wss ws O) (f : Fr O O' []) : LT a w pr wss ws O' := by
  obtain ⟨c', rows, row, last, g1, g2, g3, g4, g5, g6, g7, g8⟩ := h
  exact ⟨c', rows, row, last, f.at g1 (by simp), g2, f.at g3 (by simp), f.at g4 (by simp), g5, g6, g7, g8⟩
end
/-- the text of rows -/
theorem txt_ok5 {rows : List Str} {wss : List (List Wd)} (h : TxtW rows wss) (hl : rows.length ≤ 1000) :
    ∃ (rs : List Str) (wss' : List (List Wd)), (tl (Txt.join "\n" rows)).length ≤ 10000000 ∧ Txt.split (Txt.join "\n" rows) (Str.ofString "\n") = rs ∧ (∀ r ∈ rs, (tl r).length ≤ 10000) ∧ rs.length ≤ 1000 ∧ ScanRows rs wss' ∧ nonE wss' = nonE wss := by
  obtain ⟨h, hr⟩ := h
  cases e : rows with
  | nil =>
    subst e
    have hw : wss = [] := List.length_eq_zero_iff.mp (scanRows_len h).symm
    subst hw
    exact ⟨[""], [[]], by decide +kernel, by decide +kernel, by decide +kernel, by decide, ⟨.nil _, trivial⟩, rfl⟩
  | cons r0 rs0 =>
    rw [← e]
    refine ⟨rows, wss, ?_, split_join (y := "\n") (s := 10) (S := []) rfl (by decide +kernel) (by rw [e]; simp) (fun p hp => (hr p hp).2), fun r hr' => by have := (hr r hr').1; omega, by omega, h, rfl⟩
    have h1 := joinL_len (c := 10) (rows.map tl)
    have h2 : ∀ {rows : List Str}, (∀ r ∈ rows, (tl r).length ≤ 1000) → (rows.map fun r => (tl r).length).sum ≤ 1000 * rows.length := by
      intro rows
      induction rows with
      | nil => intro _; simp
      | cons r rows ih =>
        intro h
        have h1 := h r List.mem_cons_self
        have h2 := ih fun r hr => h r (List.mem_cons_of_mem _ hr)
        rw [List.map_cons, List.sum_cons, List.length_cons]; omega
    have h2 := h2 fun r hr' => (hr r hr').1
    rw [TL.join_eq, TL.tl_join]
    rw [List.map_map, List.length_map] at h1
    have e : (List.length ∘ tl : Str → Nat) = fun r => (tl r).length := rfl
    rw [e] at h1
    show (TL.joinL [10] (rows.map tl)).length ≤ _
    omega
/-- a text, and the tree that it tells -/
def TxO (z : Str) (t : DV) : Prop := ∃ (rs : List Str) (wss : List (List Wd)) (us ts : List NW) (uv tv : List DV), (tl z).length ≤ 10000000 ∧ Txt.split z (Str.ofString "\n") = rs ∧ (∀ r ∈ rs, (tl r).length ≤ 10000) ∧ rs.length ≤ 1000 ∧ ScanRows rs wss ∧ nonE wss = us ++ ts ∧ Uses us uv ∧ Tolds ts tv ∧ uv.length ≤ 100000 ∧ t = .tup [.tup uv, .tup tv] ∧ PV 24 t
/-- how many rows of text -/
def cT : Td → Nat
  | .val _ _ _ _ => 2
  | .dfn _ _ _ _ rs => 4 + 6 * cRs rs
theorem cT_le {t : Td} (h : GT t) : cT t ≤ 250 := by
  cases t with
  | val => exact (show 2 ≤ 250 by decide)
  | dfn out n ps kd rs =>
    have := h.2.2.2.2.2.2
    simp only [cT]; omega
structure CtxE3 (kvs : List (Key × DV)) (ns : List Nm) (ds : List Df) (sg : List Str) : Prop where
  n : dget kvs (Sum.inr (Str.ofString "names")) = some (.lst (ns.map encN))
  d : dget kvs (Sum.inr (Str.ofString "defs")) = some (.lst (ds.map encDf))
  s : dget kvs (Sum.inr (Str.ofString "signs")) = some (.lst (sg.map DV.str))
  on : ∀ x ∈ ns, NM0 x.2.1 ∧ NMW x.2.2 ∧ PureS 1 (encN x)
  od : ∀ x ∈ ds, NM0 x.1 ∧ NMW x.2.1 ∧ x.2.2.1.length ≤ 3 ∧ (∀ k ∈ x.2.2.1, KN k) ∧ PureS 2 (encDf x)
  ln : ns.length ≤ 1000
  ld : ds.length ≤ 1000
  os : (∀ s ∈ sg, s ∈ binOps) ∧ 0 < sg.length ∧ sg.length ≤ 5
theorem CtxE.to3 {kvs : List (Key × DV)} {ns : List Nm} {ds : List Df} {sg : List Str} (h : CtxE kvs ns ds sg) : CtxE3 kvs ns ds sg :=
  ⟨h.n, h.d, h.s, fun x hx => ⟨(h.on x hx).2.1.nm0, isName_word (h.on x hx).2.2, pure_encN (h.on x hx)⟩, fun x hx => let y := h.od x hx; ⟨y.1.nm0, isName_word y.2.1, y.2.2.1, y.2.2.2.1, pure_encDf y⟩, h.ln, h.ld, ⟨(sgs_bin h.os).1, (sgs_bin h.os).2.1, (sgs_bin h.os).2.2.1⟩⟩
theorem pure5_atom {e : Ex} (h : Atom e) : PureS 1 (enc e) := by
  cases e with
  | num n =>
    simp only [enc]
    refine .tup (n := 0) fun x hx => ?_
    simp only [List.mem_cons, List.not_mem_nil, or_false] at hx
    rcases hx with rfl | rfl | rfl
    · exact .str _ cps_lit.1
    · exact .non
    · exact .int _
  | truth b =>
    simp only [enc]
    refine .tup (n := 0) fun x hx => ?_
    simp only [List.mem_cons, List.not_mem_nil, or_false] at hx
    rcases hx with rfl | rfl | rfl
    · exact .str _ cps_lit.2.1
    · exact .non
    · exact .bl _
  | name f m =>
    simp only [enc]
    refine .tup (n := 0) fun x hx => ?_
    simp only [List.mem_cons, List.not_mem_nil, or_false] at hx
    rcases hx with rfl | rfl | rfl | rfl
    · exact .str _ cps_lit.2.2.1
    · exact .non
    · exact .str _ (nm0_cps h.1)
    · exact .str _ (nmw_cps h.2)
  | call f m as => exact h.elim
  | un neg a => exact h.elim
  | bin op a b => exact h.elim
theorem pure5 : ∀ (d : Nat) (e : Ex), WX5 d e → PureS (2 * d + 1) (enc e)
  | 0, e, h => pure5_atom h
  | d + 1, .num n, h => (pure5_atom (e := .num n) h).up (by omega)
  | d + 1, .truth n, h => (pure5_atom (e := .truth n) h).up (by omega)
  | d + 1, .name f m, h => (pure5_atom (e := .name f m) h).up (by omega)
  | d + 1, .call f m as, h => by
    simp only [enc]
    refine .tup (n := 2 * d + 2) fun x hx => ?_
    simp only [List.mem_cons, List.not_mem_nil, or_false] at hx
    rcases hx with rfl | rfl | rfl | rfl | rfl
    · exact .str _ cps_lit.2.2.2.1
    · exact .non
    · exact .str _ (nm0_cps h.1)
    · exact .str _ (nmw_cps h.2.1)
    · refine .tup (n := 2 * d + 1) fun y hy => ?_
      rw [encL_map] at hy
      obtain ⟨z, hz, rfl⟩ := List.mem_map.mp hy
      exact (pure5_atom (h.2.2.2 z hz)).up (by omega)
  | d + 1, .un neg a, h => by
    have := pure5 d a h
    simp only [enc]
    refine .tup (n := 2 * d + 2) fun x hx => ?_
    simp only [List.mem_cons, List.not_mem_nil, or_false] at hx
    rcases hx with rfl | rfl | rfl
    · cases neg
      · exact .str _ cps_lit.2.2.2.2.2.1
      · exact .str _ cps_lit.2.2.2.2.1
    · exact .non
    · exact this.up (by omega)
  | d + 1, .bin op a b, h => by
    have h1 := pure5 d a h.2.1
    have h2 := pure5 d b h.2.2
    simp only [enc]
    refine .tup (n := 2 * d + 2) fun x hx => ?_
    simp only [List.mem_cons, List.not_mem_nil, or_false] at hx
    rcases hx with rfl | rfl | rfl | rfl
    · exact .str _ (cps_op h.1)
    · exact .non
    · exact h1.up (by omega)
    · exact h2.up (by omega)
theorem pureR5 : ∀ (d : Nat) (r : Rw), GR d r → PureS (2 * d + 6) (encR r)
  | 0, r, h => by simp [GR] at h
  | d + 1, .lt new n e, h => by
    simp only [GR] at h
    have := pure5 2 e h.2
    simp only [encR]
    refine .tup (n := 2 * d + 7) fun x hx => ?_
    simp only [List.mem_cons, List.not_mem_nil, or_false] at hx
    rcases hx with rfl | rfl | rfl | rfl
    · cases new
      · exact .str _ cps_lit.2.2.2.2.2.2.2.1
      · exact .str _ cps_lit.2.2.2.2.2.2.1
    · exact .non
    · exact .str _ (nmw_cps h.1)
    · exact this.up (by omega)
  | d + 1, .one w none, h => by
    simp only [GR] at h
    subst h
    simp only [encR, encO]
    refine .tup (n := 2 * d + 7) fun x hx => ?_
    simp only [List.mem_cons, List.not_mem_nil, or_false] at hx
    rcases hx with rfl | rfl | rfl
    · exact .str _ (cps_of (by decide +kernel))
    · exact .non
    · exact .non
  | d + 1, .one w (some e), h => by
    simp only [GR] at h
    have hw : Cps w := by
      rcases h with ⟨rfl | rfl, _⟩ | ⟨rfl, _⟩ <;> exact cps_of (by decide +kernel)
    have he : PureS 5 (enc e) := by
      rcases h with ⟨_, h⟩ | ⟨_, h, _⟩
      · exact pure5 2 e h
      · exact (pure5 1 e h).up (by omega)
    simp only [encR, encO]
    refine .tup (n := 2 * d + 7) fun x hx => ?_
    simp only [List.mem_cons, List.not_mem_nil, or_false] at hx
    rcases hx with rfl | rfl | rfl
    · exact .str _ hw
    · exact .non
    · exact he.up (by omega)
  | d + 1, .iff t a b, h => by
    simp only [GR] at h
    obtain ⟨h1, _, _, h2, h3⟩ := h
    have ht := pure5 2 t h1
    have ha : ∀ x ∈ encRs a, PureS (2 * d + 6) x := fun x hx => by
      rw [encRs_map] at hx
      obtain ⟨y, hy, rfl⟩ := List.mem_map.mp hx
      exact pureR5 d y (grs_mem h2 y hy)
    have hb : ∀ x ∈ encRs b, PureS (2 * d + 6) x := fun x hx => by
      rw [encRs_map] at hx
      obtain ⟨y, hy, rfl⟩ := List.mem_map.mp hx
      exact pureR5 d y (grs_mem h3 y hy)
    simp only [encR]
    refine .tup (n := 2 * d + 7) fun x hx => ?_
    simp only [List.mem_cons, List.not_mem_nil, or_false] at hx
    rcases hx with rfl | rfl | rfl | rfl | rfl
    · exact .str _ (cps_of (by decide +kernel))
    · exact .non
    · exact ht.up (by omega)
    · exact .tup ha
    · exact .tup hb
  | d + 1, .whl t a, h => by
    simp only [GR] at h
    obtain ⟨h1, _, h2⟩ := h
    have ht := pure5 2 t h1
    have ha : ∀ x ∈ encRs a, PureS (2 * d + 6) x := fun x hx => by
      rw [encRs_map] at hx
      obtain ⟨y, hy, rfl⟩ := List.mem_map.mp hx
      exact pureR5 d y (grs_mem h2 y hy)
    simp only [encR]
    refine .tup (n := 2 * d + 7) fun x hx => ?_
    simp only [List.mem_cons, List.not_mem_nil, or_false] at hx
    rcases hx with rfl | rfl | rfl | rfl
    · exact .str _ (cps_of (by decide +kernel))
    · exact .non
    · exact ht.up (by omega)
    · exact .tup ha
theorem pureRs5 {d : Nat} {as : List Rw} (h : GRs d as) : PureS (2 * d + 7) (.tup (encRs as)) := .tup fun x hx => by
  rw [encRs_map] at hx
  obtain ⟨y, hy, rfl⟩ := List.mem_map.mp hx
  exact pureR5 d y (grs_mem h y hy)
theorem row_words : WordOk "own" (tl "let") ∧ WordOk "sign" (tl "=") ∧ WordOk "own" (tl "give") ∧ WordOk "own" (tl "say") ∧ WordOk "own" (tl "do") ∧ WordOk "own" (tl "if") ∧ WordOk "own" (tl "while") ∧ WordOk "own" (tl "else") ∧ WordOk "own" (tl "end") ∧ WordOk "own" (tl "out") ∧ WordOk "own" (tl "const") ∧ WordOk "own" (tl "keep") ∧ WordOk "own" (tl "def") ∧ WordOk "own" (tl "num") ∧ WordOk "own" (tl "yes") ∧ WordOk "own" (tl "use") :=
  ⟨own_ok (by decide), sign_ok (by decide), own_ok (by decide), own_ok (by decide), own_ok (by decide), own_ok (by decide), own_ok (by decide), own_ok (by decide), own_ok (by decide), own_ok (by decide), own_ok (by decide), own_ok (by decide), own_ok (by decide), own_ok (by decide), own_ok (by decide), own_ok (by decide)⟩
theorem PV.non {n : Nat} : PV n .non := ⟨.non, .non⟩
theorem pv4 {n : Nat} {a b c d : DV} (ha : PV n a) (hb : PV n b) (hc : PV n c) (hd : PV n d) : PV (n + 1) (.tup [a, b, c, d]) := .tup (fun x hx => by
  simp only [List.mem_cons, List.not_mem_nil, or_false] at hx
  rcases hx with rfl | rfl | rfl | rfl <;> assumption) (by simp)
theorem pv3 {n : Nat} {a b c : DV} (ha : PV n a) (hb : PV n b) (hc : PV n c) : PV (n + 1) (.tup [a, b, c]) := .tup (fun x hx => by
  simp only [List.mem_cons, List.not_mem_nil, or_false] at hx
  rcases hx with rfl | rfl | rfl <;> assumption) (by simp)
theorem pv5 {n : Nat} {a b c d e : DV} (ha : PV n a) (hb : PV n b) (hc : PV n c) (hd : PV n d) (he : PV n e) : PV (n + 1) (.tup [a, b, c, d, e]) := .tup (fun x hx => by
  simp only [List.mem_cons, List.not_mem_nil, or_false] at hx
  rcases hx with rfl | rfl | rfl | rfl | rfl <;> assumption) (by simp)
theorem rng3_ {f : Nat → DV} : List.map f (List.range (Int.toNat (3 - 3))) = [] := rfl
theorem rng4_ : List.map (fun k : Nat => DV.int (3 + (k : Int))) (List.range (((4 : Nat) : Int) - 3).toNat) = [.int 3] := rfl
theorem rng5_ : List.map (fun k : Nat => DV.int (3 + (k : Int))) (List.range (((5 : Nat) : Int) - 3).toNat) = [.int 3, .int 4] := rfl
theorem nEf_blk {k : Nat} {W E : List Wd} {sp ws sp2 : List (List Wd)} (h1 : W ≠ []) (h2 : ∀ x ∈ sp, x = []) (h3 : E ≠ []) (h4 : ∀ x ∈ sp2, x = []) :
    nEf k ((W :: sp) ++ (ws ++ (E :: sp2))) = (k, W) :: (nEf (k + (W :: sp).length) ws ++ [(k + (W :: sp).length + ws.length, E)]) := by
  rw [nEf_app, nEf_app, nEf_one h1 h2, nEf_one h3 h4]; rfl
theorem nEf_blk2 {k : Nat} {W M E : List Wd} {sp ws sp1 ws2 sp2 : List (List Wd)} (h1 : W ≠ []) (h2 : ∀ x ∈ sp, x = []) (g1 : M ≠ []) (g2 : ∀ x ∈ sp1, x = []) (h3 : E ≠ []) (h4 : ∀ x ∈ sp2, x = []) :
    nEf k ((W :: sp) ++ (ws ++ ((M :: sp1) ++ (ws2 ++ (E :: sp2))))) = (k, W) :: ((nEf (k + (W :: sp).length) ws ++ [(k + (W :: sp).length + ws.length, M)]) ++ (nEf (k + (W :: sp).length + ws.length + (M :: sp1).length) ws2 ++ [(k + (W :: sp).length + ws.length + (M :: sp1).length + ws2.length, E)])) := by
  rw [nEf_app, nEf_app, nEf_blk g1 g2 h3 h4, nEf_one h1 h2]; simp
theorem cut24_5 {a b c d e : DV} : DL.cutD [a, b, c, d, e] (some 2) (some 4) = [c, d] := rfl
theorem cut24_8 {a b c d e f g h : DV} : DL.cutD [a, b, c, d, e, f, g, h] (some 2) (some 4) = [c, d] := rfl
theorem parsW_snoc {ps : List Par} {p : Par} (h : ps ≠ []) : parsW (ps ++ [p]) = parsW ps ++ sg "," p.1 :: parW p := by
  cases ps with
  | nil => exact absurd rfl h
  | cons q ps => simp [parsW, ptail]
theorem usW_snoc {c0 : Nat} {p q : Us} {ps : List Us} : usW c0 p (ps ++ [q]) = usW c0 p ps ++ [sg "," q.1, nmW q.2.1 q.2.2] := by
  simp [usW, usT]
theorem usW_len {c0 : Nat} {p : Us} {ps : List Us} : (usW c0 p ps).length = 2 + 2 * ps.length := by
  unfold usW usT
  rw [List.length_cons, List.length_cons, List.length_flatMap]
  induction ps with
  | nil => rfl
  | cons q ps ih => simp at ih ⊢; omega
theorem pv_usV {n : Int} {p : Us} (h : NMW p.2.1) : PV 2 (usV n p) := .tup (n := 1) (fun x hx => by
  simp only [List.mem_cons, List.not_mem_nil, or_false] at hx
  rcases hx with rfl | rfl
  · exact .pl
  · exact .str (nmw_cps h)) (by simp)
theorem outW_len {o : Bool} {c : Nat} : (outW o c).length ≤ 1 := by cases o <;> simp [outW]
theorem kindW_len {k : Str} {c : Nat} : (kindW k c).length ≤ 1 := by
  unfold kindW
  split <;> simp
theorem oset_odel {O : Own} {a : Addr} {c : Cell} (h : O a = some c) : oset (odel O a) a c = O := by
  funext b
  unfold oset odel
  by_cases e : b = a
  · subst e; simp [h]
  · simp [e]
theorem fr2 {O O3 O4 : Own} {a w pr : Addr} (h : Fr O O3 [a]) (h2 : Fr O3 O4 [a, w, pr]) (hw : O w = none) (hp : O pr = none) : Fr O O4 [a] := W1.Fr.trans2 (bs := [w, pr]) h h2 fun b hb => by
  simp only [List.mem_cons, List.not_mem_nil, or_false] at hb
  rcases hb with rfl | rfl <;> assumption
def encX (x : Str × Str × DV) : Key × DV := (Sum.inr x.1, .str x.2.1)
def encY (x : Str × Str × DV) : Key × DV := (Sum.inr x.1, x.2.2)
theorem dget_xy {f : Str} : ∀ {xs : List (Str × Str × DV)}, f ∈ xs.map (·.1) → ∃ z t, (f, z, t) ∈ xs ∧ dget (xs.map encX) (Sum.inr f) = some (.str z) ∧ dget (xs.map encY) (Sum.inr f) = some t
  | [], h => by cases h
  | (g, z, t) :: xs, h => by
    by_cases e : g = f
    · subst e
      refine ⟨z, t, List.mem_cons_self, ?_, ?_⟩
      · unfold dget encX; simp
      · unfold dget encY; simp
    · have h2 : f ∈ xs.map (·.1) := by
        rcases List.mem_cons.mp h with h | h
        · exact absurd h.symm e
        · exact h
      obtain ⟨b, c, h3, h4, h5⟩ := dget_xy h2
      refine ⟨b, c, List.mem_cons_of_mem _ h3, ?_, ?_⟩
      · unfold dget at h4 ⊢
        rw [List.map_cons, List.find?_cons_of_neg]
        · exact h4
        · simp only [encX, decide_eq_true_eq]
          intro q; exact e (Sum.inr.inj (of_decide_eq_true q))
      · unfold dget at h5 ⊢
        rw [List.map_cons, List.find?_cons_of_neg]
        · exact h5
        · simp only [encY, decide_eq_true_eq]
          intro q; exact e (Sum.inr.inj (of_decide_eq_true q))
theorem keys_fl {es : List (Str × List Str × List Td)} : List.map (fun kv : Key × DV => keyV kv.1) (es.map encFl) = es.map fun e => DV.str e.1 := by
  rw [List.map_map]; rfl
/-- the text told where none is short enough -/
theorem tx_last : TxO (Str.ofString "out def a()\nend") (.tup [.tup [], .tup [.tup [.str "def", .tup [.int 1, .int 9], .bl true, .str "a", .tup [], .str "", .tup [], .tup [.int 2, .int 1]]]]) := by
  have r := row_words
  have d := dot_word
  have n : WordOk "name" (tl "a") := nm_let ⟨_, rfl, by decide +kernel⟩
  have h1 := ext_end (t := []) (((((((ext_word (g := 0) ext0 r.2.2.2.2.2.2.2.2.2.1 (fun _ x y h _ => by cases h))) |> fun h => ext_word (g := 1) h r.2.2.2.2.2.2.2.2.2.2.2.2.1 (fun h => by cases h)) |> fun h => ext_word (g := 1) h n (fun h => by cases h)) |> fun h => ext_word (g := 0) h d.2.1 (fun _ => by rintro x y h1 h2; cases h1; cases h2; decide +kernel)) |> fun h => ext_word (g := 0) h d.2.2.1 (fun _ => by rintro x y h1 h2; cases h1; cases h2; decide +kernel))) (.inl rfl) (fun e => .nil e)
  have h2 := ext_end (t := []) (ext_word (g := 0) ext0 r.2.2.2.2.2.2.2.2.1 (fun _ x y h _ => by cases h)) (.inl rfl) (fun e => .nil e)
  refine ⟨["out def a()", "end"], [_, _], [], _, [], _, by decide +kernel, by decide +kernel, by decide +kernel, by decide, ⟨h1, h2, trivial⟩, rfl, .nil, .cons (a := [_, _]) (b := []) (Told.dfn (k := 0) (c0 := 0) (c1 := 4) (c := 8) (c2 := 9) (c3 := 10) (c4 := 0) (k2 := 1) (c5 := 0) (d := 0) (o := true) (n := "a") (kd := "") (ps := []) (bs := []) (bv := []) (by decide) (by simp) (.inl rfl) .nil (by decide)) .nil, by decide, rfl, ?_⟩
  refine .tup (n := 23) (fun x hx => ?_) (by simp)
  simp only [List.mem_cons, List.not_mem_nil, or_false] at hx
  rcases hx with rfl | rfl
  · exact (PV.tup (n := 22) (by simp) (by simp))
  · refine .tup (n := 22) (fun x hx => ?_) (by simp)
    simp only [List.mem_cons, List.not_mem_nil, or_false] at hx
    subst hx
    refine .tup (n := 21) (fun x hx => ?_) (by simp)
    simp only [List.mem_cons, List.not_mem_nil, or_false] at hx
    rcases hx with rfl | rfl | rfl | rfl | rfl | rfl | rfl | rfl
    · exact .str (cps_of (by decide +kernel))
    · exact PV.pl (n := 20) (i := 1) (c := 8)
    · exact .bl
    · exact .str (cps_of (by decide +kernel))
    · exact PV.tup (n := 20) (by simp) (by simp)
    · exact .str (cps_of (by decide +kernel))
    · exact PV.tup (n := 20) (by simp) (by simp)
    · exact PV.pl (n := 20) (i := 2) (c := 0)
end W1

set_option Elab.async false
set_option linter.all false
set_option maxRecDepth 100000
namespace W1
open PySem PySem.Spec PyProof.Rows L2 TL DL
/-! ### a text's words, as they can be reckoned -/
def scanL : Nat → List Nat → Nat → Option (List Wd)
  | 0, _, _ => none
  | _ + 1, [], _ => some []
  | k + 1, c :: r, e =>
    if c = 35 then some [] else if c = 32 then scanL k r (e + 1)
    else if (wordL (c :: r)).1 = "" then none
    else match scanL k ((c :: r).drop (wordL (c :: r)).2.length) (e + (wordL (c :: r)).2.length) with
      | some ws => some (((wordL (c :: r)).1, (wordL (c :: r)).2, e) :: ws)
      | none => none
theorem scanL_ok : ∀ {k : Nat} {r : List Nat} {e : Nat} {ws : List Wd}, scanL k r e = some ws → Scan r e ws
  | 0, _, _, _, h => by cases h
  | _ + 1, [], e, _, h => by cases h; exact .nil e
  | k + 1, c :: r, e, ws, h => by
    unfold scanL at h
    split at h
    · rename_i h1; subst h1; cases h; exact .rem r e
    · rename_i h1
      split at h
      · rename_i h2; subst h2; exact .blank (scanL_ok h)
      · rename_i h2
        split at h
        · cases h
        · rename_i h3
          split at h
          · rename_i ws' h4
            cases h
            exact .word h1 h2 rfl h3 (scanL_ok h4)
          · cases h
def scanA : List (List Nat) → Option (List (List Wd))
  | [] => some []
  | r :: rs => match scanL (r.length + 1) r 0, scanA rs with
    | some ws, some wss => some (ws :: wss)
    | _, _ => none
theorem scanA_ok : ∀ {rs : List Str} {wss : List (List Wd)}, scanA (rs.map tl) = some wss → ScanRows rs wss
  | [], _, h => by cases h; exact True.intro
  | r :: rs, wss, h => by
    rw [List.map_cons] at h
    unfold scanA at h
    split at h
    · rename_i ws wss' h1 h2
      cases h
      exact ⟨scanL_ok h1, scanA_ok h2⟩
    · cases h
def splitL : List Nat → List (List Nat)
  | [] => [[]]
  | c :: r => if c = 10 then [] :: splitL r else match splitL r with
    | [] => [[c]]
    | x :: xs => (c :: x) :: xs
theorem splitL_ne : ∀ {l : List Nat}, splitL l ≠ []
  | [] => by simp [splitL]
  | c :: r => by
    unfold splitL
    split
    · simp
    · split <;> simp
theorem splitL_no : ∀ {l : List Nat}, ∀ x ∈ splitL l, 10 ∉ x
  | [], x, h => by simp [splitL] at h; subst h; simp
  | c :: r, x, h => by
    unfold splitL at h
    split at h
    · rcases List.mem_cons.mp h with rfl | h
      · simp
      · exact splitL_no x h
    · rename_i hc
      have ih := splitL_no (l := r)
      revert h ih
      cases splitL r with
      | nil =>
        intro h _
        simp only [List.mem_singleton] at h
        subst h
        simpa using Ne.symm hc
      | cons y ys =>
        intro h ih
        rcases List.mem_cons.mp h with rfl | h
        · intro q
          rcases List.mem_cons.mp q with q | q
          · exact hc q.symm
          · exact ih y List.mem_cons_self q
        · exact ih x (List.mem_cons_of_mem _ h)
theorem joinL_cons {c : Nat} {x y : List Nat} {ys : List (List Nat)} : TL.joinL [c] (x :: y :: ys) = x ++ c :: TL.joinL [c] (y :: ys) := by
  simp [TL.joinL]
theorem joinL_one {c : Nat} {x : List Nat} : TL.joinL [c] [x] = x := by simp [TL.joinL]
theorem splitL_join : ∀ {l : List Nat}, TL.joinL [10] (splitL l) = l
  | [] => joinL_one
  | c :: r => by
    have ih := splitL_join (l := r)
    have hne := splitL_ne (l := r)
    unfold splitL
    revert ih hne
    cases splitL r with
    | nil => intro _ h; exact absurd rfl h
    | cons y ys =>
      intro ih _
      by_cases hc : c = 10
      · subst hc
        rw [if_pos rfl, joinL_cons, ih]; rfl
      · rw [if_neg hc]
        cases ys with
        | nil => rw [joinL_one] at ih ⊢; rw [ih]
        | cons z zs => rw [joinL_cons] at ih ⊢; rw [← ih]; rfl
def pureSB : Nat → DV → Bool
  | _, .non => true
  | _, .bl _ => true
  | _, .int _ => true
  | _, .str x => x.cps.all (· < 0x110000)
  | n + 1, .tup xs => xs.attach.all fun x => pureSB n x.1
  | _, _ => false
theorem pureSB_ok : ∀ {n : Nat} {d : DV}, pureSB n d = true → PureS n d
  | _, .non, _ => .non
  | _, .bl b, _ => .bl b
  | _, .int i, _ => .int i
  | _, .str x, h => .str x (by simpa [pureSB] using h)
  | n + 1, .tup xs, h => .tup fun x hx => pureSB_ok (n := n) (by
      unfold pureSB at h
      exact List.all_eq_true.mp h ⟨x, hx⟩ (List.mem_attach _ _))
  | 0, .tup xs, h => by simp [pureSB] at h
  | _, .lst _, h => by simp [pureSB] at h
  | _, .slst _, h => by simp [pureSB] at h
  | _, .stup _, h => by simp [pureSB] at h
  | _, .dK _, h => by simp [pureSB] at h
  | _, .dT _, h => by simp [pureSB] at h
  | _, .ref _, h => by simp [pureSB] at h
  | _, .ty _, h => by simp [pureSB] at h
def goodB (res : BR DV) (pv : Option (Int × Int)) : Bool :=
  match res, pv with
  | .ok (.tup [.tup us, .tup _]) _, none => pureSB 40 (.tup us)
  | .bad (.tup [.int a, .int b]), some (x, y) => decide (a = x) && decide (b = y)
  | _, _ => false
def pvD : Option (Int × Int) → DV
  | none => .non
  | some p => .tup [.int p.1, .int p.2]
theorem goodB_ok {res : BR DV} {pv : Option (Int × Int)} (h : goodB res pv = true) : GoodT res (pvD pv) := by
  unfold goodB at h
  split at h
  · exact .inl ⟨rfl, _, _, _, rfl, pureSB_ok h⟩
  · simp only [Bool.and_eq_true, decide_eq_true_eq] at h
    obtain ⟨rfl, rfl⟩ := h
    exact .inr ⟨_, _, rfl, rfl⟩
  · cases h
def numB (ws : List Wd) : Bool := !ws.isEmpty && decide (ws.length ≤ 5000) && ws.all fun t => decide (t.2.1.length ≤ 640) && (!decide (t.1 = "num") || (PySem.intText? (ofL t.2.1)).isSome)
theorem numB_ok {ws : List Wd} (h : numB ws = true) : NumOk ws := by
  unfold numB at h
  simp only [Bool.and_eq_true, decide_eq_true_eq, List.all_eq_true, Bool.or_eq_true, Bool.not_eq_true', decide_eq_false_iff_not] at h
  obtain ⟨⟨h1, h2⟩, h3⟩ := h
  refine ⟨by rintro rfl; simp at h1, h2, fun t ht => ⟨(h3 t ht).1, fun e => ?_⟩⟩
  rcases (h3 t ht).2 with q | q
  · exact absurd e q
  · exact q
def chkL (l : List Nat) (pv : Option (Int × Int)) : Bool :=
  decide ((splitL l).length ≤ 1000) && (splitL l).all (fun r => decide (r.length ≤ 1000)) && match scanA (splitL l) with
    | some wss => (nonE wss).all (fun x => numB x.2) && goodB (treeM (wss.length : Int) 7 (nonE wss)) pv
    | none => false
/-- a text whose tree, or whose fault, is as the law says -/
def TxG (z : Str) (pv : DV) : Prop := ∃ (rs : List Str) (wss : List (List Wd)), (tl z).length ≤ 10000000 ∧ Txt.split z (Str.ofString "\n") = rs ∧ (∀ r ∈ rs, (tl r).length ≤ 10000) ∧ rs.length ≤ 1000 ∧ ScanRows rs wss ∧ (∀ x ∈ nonE wss, NumOk x.2) ∧ GoodT (treeM (wss.length : Int) 7 (nonE wss)) pv
theorem txG {z : Str} {pv : Option (Int × Int)} (h : chkL (tl z) pv = true) : TxG z (pvD pv) := by
  unfold chkL at h
  simp only [Bool.and_eq_true, decide_eq_true_eq, List.all_eq_true] at h
  obtain ⟨⟨h1, h2⟩, h3⟩ := h
  cases e : scanA (splitL (tl z)) with
  | none => rw [e] at h3; cases h3
  | some wss =>
    rw [e] at h3
    simp only [Bool.and_eq_true, List.all_eq_true] at h3
    obtain ⟨h4, h5⟩ := h3
    have em : ((splitL (tl z)).map ofL).map tl = splitL (tl z) := by
      rw [List.map_map]
      conv => rhs; rw [← List.map_id (splitL (tl z))]
      exact List.map_congr_left fun x _ => tl_ofL x
    have hs : ScanRows ((splitL (tl z)).map ofL) wss := scanA_ok (by rw [em]; exact e)
    have hz : Txt.join "\n" ((splitL (tl z)).map ofL) = z := by
      rw [str_ext, TL.join_eq, TL.tl_join, em]
      exact splitL_join
    have hr : ∀ r ∈ (splitL (tl z)).map ofL, (tl r).length ≤ 1000 ∧ 10 ∉ tl r := fun r hr => by
      obtain ⟨x, hx, rfl⟩ := List.mem_map.mp hr
      rw [tl_ofL]
      exact ⟨h2 x hx, splitL_no x hx⟩
    obtain ⟨rs0, wss0, g1, g2, g3, g4, g5, g6⟩ := txt_ok5 (rows := (splitL (tl z)).map ofL) (wss := wss) ⟨hs, hr⟩ (by rw [List.length_map]; exact h1)
    rw [hz] at g1 g2
    refine ⟨(splitL (tl z)).map ofL, wss, g1, ?_, fun r hr' => by have := (hr r hr').1; omega, by rw [List.length_map]; exact h1, hs, fun x hx => numB_ok (h4 x hx), goodB_ok h5⟩
    have := split_join (y := "\n") (s := 10) (S := []) rfl (by decide +kernel) (parts := (splitL (tl z)).map ofL) (by simpa using splitL_ne) (fun p hp => (hr p hp).2)
    rw [hz] at this
    exact this
theorem strs_rep {n : Nat} {s : Str} : strsOf (List.replicate n [DV.str s]).flatten = some (List.replicate n s) := by
  have : (List.replicate n [DV.str s]).flatten = (List.replicate n s).map DV.str := by
    induction n with
    | zero => rfl
    | succ n ih => rw [List.replicate_succ, List.flatten_cons, ih, List.replicate_succ]; rfl
  rw [this, strsOf_strs]
theorem strs_reps {n : Nat} {a b : List Str} {c : List Str} : strsOf ((a.map DV.str) ++ ((List.replicate n (b.map DV.str)).flatten ++ c.map DV.str)) = some (a ++ ((List.replicate n b).flatten ++ c)) := by
  have : (List.replicate n (b.map DV.str)).flatten = ((List.replicate n b).flatten).map DV.str := by
    rw [List.map_flatten, List.map_replicate]
  rw [this, ← List.map_append, ← List.map_append, strsOf_strs]
theorem strs_reps2 {n : Nat} {b : List Str} {c : List Str} : strsOf ((List.replicate n (b.map DV.str)).flatten ++ c.map DV.str) = some ((List.replicate n b).flatten ++ c) := by
  have : (List.replicate n (b.map DV.str)).flatten = ((List.replicate n b).flatten).map DV.str := by
    rw [List.map_flatten, List.map_replicate]
  rw [this, ← List.map_append, strsOf_strs]
theorem sum_rep {n : Nat} {s : Str} : (List.map (fun x => (tl x).length) (List.replicate n s)).sum = n * (tl s).length := by
  induction n with
  | zero => simp
  | succ n ih => rw [List.replicate_succ, List.map_cons, List.sum_cons, ih, Nat.succ_mul]; omega
def encC (x : Str × Option (Int × Int)) : DV := .tup [.str x.1, pvD x.2]
theorem strs_snoc {a : List Str} {b : Str} : strsOf (a.map DV.str ++ [DV.str b]) = some (a ++ [b]) := by
  have : a.map DV.str ++ [DV.str b] = (a ++ [b]).map DV.str := by simp
  rw [this, strsOf_strs]
def four : List Str := ["const q = 1", "", "# no", "keep r = yes"]
def aheadS (n : Nat) : List Str := (List.replicate n four).flatten
theorem aheadS_dv {n : Nat} : (List.replicate n [DV.str "const q = 1", DV.str "", DV.str "# no", DV.str "keep r = yes"]).flatten = (aheadS n).map DV.str := by
  unfold aheadS
  rw [List.map_flatten, List.map_replicate]; rfl
theorem aheadS_len {n : Nat} : (aheadS n).length = 4 * n := by
  unfold aheadS
  induction n with
  | zero => rfl
  | succ n ih => rw [List.replicate_succ, List.flatten_cons, List.length_append, ih]; show 4 + _ = _; omega
/-- the law's cases behind r rows, part by part -/
def csA (r : Int) : List (List (Str × Option (Int × Int))) :=
  [[("def a()", some (r + 2, 1)), ("end", some (r + 1, 1)), ("def a()\nelse\nend", some (r + 2, 1))],
   [("def a()\nif yes\nelse\nelse\nend\nend", some (r + 4, 1)), ("out", some (r + 1, 4))],
   [("def a()\nwhile no\nelse\nend\nend", some (r + 3, 1)), ("out use b", some (r + 1, 5))],
   [("def a()\nend\nend", some (r + 3, 1)), ("def a()\ngive\nend", none), ("", none)],
   [("def a() num yes\nend", some (r + 1, 13)), ("def a(b)\nend", some (r + 1, 8))],
   [("def a()\ndo b\nend", some (r + 2, 5)), ("def a()\ndo b.c() + 1\nend", some (r + 2, 10))],
   [("say 1", some (r + 1, 1)), ("const a = 1 < 2 < 3", some (r + 1, 17))],
   [("const a = (1", some (r + 1, 13)), ("const a =", some (r + 1, 10)), ("const a.b = 1", some (r + 1, 8))],
   [("def a()\nlet b = 1 # c\nend # d\n", none), ("def a()\nlet b\nend", some (r + 2, 6))]]
def csK (r : Int) (k : Nat) : List (Str × Option (Int × Int)) := ((csA r).take k).flatten
def csX (n : Nat) : List (Str × Option (Int × Int)) := if n = 0 then [("use a, b\nuse c\nconst d = 1", none), ("use a,", some (1, 7)), ("use a b", some (1, 7))] else [("use b", some (((4 * n : Nat) : Int) + 1, 1))]
def csF (n : Nat) : List (Str × Option (Int × Int)) := csK ((4 * n : Nat) : Int) 9 ++ csX n
theorem csF_ok : ∀ n, n < 3 → ∀ x ∈ csF n, chkL (tl (Txt.join "\n" (aheadS n ++ [x.1]))) x.2 = true := by decide +kernel
theorem ne_of' {O : Own} {a b : Addr} {q : Str} {c : Cell} (h : O a = some (.tbl q)) (h2 : O b = some c) (hc : Dice c := by assumption) : a ≠ b := by
  rintro rfl
  rw [h] at h2
  cases h2
  obtain ⟨_, _, _, _, e, _⟩ := hc
  cases e
theorem csK_len {r : Int} (k : Nat) (h : k ≤ 9) : (csK r k).length ≤ 21 := by
  have : k = 0 ∨ k = 1 ∨ k = 2 ∨ k = 3 ∨ k = 4 ∨ k = 5 ∨ k = 6 ∨ k = 7 ∨ k = 8 ∨ k = 9 := by omega
  rcases this with rfl | rfl | rfl | rfl | rfl | rfl | rfl | rfl | rfl | rfl <;> exact Nat.le_of_ble_eq_true rfl
theorem csF_sz : ∀ n, n < 3 → ∀ x ∈ csF n, (List.map (fun x => (tl x).length) (aheadS n ++ [x.1])).sum + (aheadS n ++ [x.1]).length * (tl (Str.ofString "\n")).length ≤ 16777216 := by decide +kernel
theorem ahead_ok {n : Nat} (h : n < 3) : ∀ x ∈ (aheadS n).map DV.str, PureS 2 x := fun x hx => by
  obtain ⟨s, hs, rfl⟩ := List.mem_map.mp hx
  exact .str s ((by decide +kernel : ∀ n, n < 3 → ∀ s ∈ aheadS n, (s.cps.all (· < 0x110000)) = true) n h s hs)
theorem ne_cs {O : Own} {d p : Addr} {c : Cell} {x : Str × Option (Int × Int)} {xs : List (Str × Option (Int × Int))} (h : O d = some c) (hD : Dice c) (h2 : O p = some (.lst ((x :: xs).map encC))) : d ≠ p := by
  rintro rfl
  obtain ⟨_, _, _, _, e, _⟩ := hD
  rw [h2] at h
  cases h
  injection e with e
  rw [List.map_cons] at e
  injection e with e _
  cases e
theorem ne_tb {O : Own} {t p : Addr} {q : Str} {xs : List DV} (h : O t = some (.tbl q)) (h2 : O p = some (.lst xs)) : t ≠ p := by
  rintro rfl
  rw [h2] at h
  cases h
end W1

set_option Elab.async false
set_option linter.all false
set_option maxRecDepth 100000
set_option maxHeartbeats 4000000
/-! DCompX: list comprehensions whose element may let an exception out. -/
namespace L2
open PySem PySem.Spec PyProof.Rows
section
theorem funFrames_shrink {h base base' : Heap} (k : ∀ b, base.get? b = none → base'.get? b = none) : ∀ {l : List Env}, h.FunFrames base l → h.FunFrames base' l
  | [], _ => trivial
  | _ :: _, ⟨hk, ⟨L', o, hf, hb, ho, hd⟩, hr⟩ => ⟨hk, ⟨L', o, hf, k _ hb, ho, hd⟩, funFrames_shrink k hr⟩
theorem tracedZ_same {h h' base : Heap} {e L : Addr} {Z : Obj → Prop} {fl : Value} {m : Str → Option Value} (x : HandSPX.TracedZ h base e Z fl) (hn : h.Ns L m) (hs : Heap.SameBut L h h') : HandSPX.TracedZ h' base e Z fl := by
  obtain ⟨oe, vs, T, oT, ts, he, hz, hd, h1, hnT, hTe, hT, hdT, h3⟩ := x
  obtain ⟨oL, es, ep, hoL, hdL, _⟩ := hn
  have ne : e ≠ L := fun q => by rw [q, hoL] at he; injection he with he; subst he; rw [hdL] at hd; cases hd
  have nT : T ≠ L := fun q => by rw [q, hoL] at hT; injection hT with hT; subst hT; rw [hdL] at hdT; cases hdT
  exact ⟨oe, vs, T, oT, ts, (hs.2 e ne).trans he, hz, hd, h1, hnT, hTe, (hs.2 T nT).trans hT, hdT, h3⟩
theorem tracedZ_shrink {h base base' : Heap} {e : Addr} {Z : Obj → Prop} {fl : Value} (k : ∀ b, base.get? b = none → base'.get? b = none) (x : HandSPX.TracedZ h base e Z fl) : HandSPX.TracedZ h base' e Z fl := by
  obtain ⟨oe, vs, T, oT, ts, he, hz, hd, h1, hnT, r⟩ := x
  exact ⟨oe, vs, T, oT, ts, he, hz, hd, h1, k _ hnT, r⟩
variable {X : Cx} {pins : List (Addr × Obj)} {σ : St} {H : Hp} {s s' : Shared} {E : XK}
/-- a heap between B and h: what B has, and h's frames, and no more -/
theorem between {B h : Heap} (fs : List Addr) (st : B.StaysIn h) : ∃ G : Heap, (∀ b o, B.get? b = some o → G.get? b = some o) ∧ (∀ b ∈ fs, G.get? b = h.get? b) ∧ ∀ b o, G.get? b = some o → h.get? b = some o ∧ (b ∉ fs → B.get? b = some o) := by
  obtain ⟨G, yes, no⟩ := restrict h fun b => (B.get? b).isSome || fs.contains b
  have inFs : ∀ b ∈ fs, G.get? b = h.get? b := fun b hb => yes b (by rw [List.contains_iff_mem.mpr hb, Bool.or_true])
  have inB : ∀ b o, B.get? b = some o → G.get? b = h.get? b := fun b o e => yes b (by rw [e]; rfl)
  refine ⟨G, fun b o e => (inB b o e).trans (st b o e), inFs, fun b o e => ?_⟩
  by_cases m : b ∈ fs
  · exact ⟨(inFs b m).symm.trans e, fun n => absurd m n⟩
  · cases q : B.get? b with
    | some o' =>
      have z := inB b o' q
      rw [e] at z
      refine ⟨z.symm, fun _ => ?_⟩
      rw [← z.trans (st b o' q)]
    | none =>
      have z := no b (by rw [q, Bool.or_eq_false_iff]; exact ⟨rfl, by simpa using m⟩)
      rw [e] at z; cases z
/-- behind a call that let an exception out: the state without it, and the flight -/
theorem of_callF (I : Inv X pins σ H s) {u : Value} (c : CX X.prog X.w X.stack H s E u s') : ∃ (a : Addr) (B : Heap) (sI : Shared) (H' : Hp) (cls : Value) (d : Option Addr), u = .ref a ∧ Inv X pins σ H' sI ∧ (∀ b o, sI.heap.get? b = some o → b ∉ frs X.stack → B.get? b = some o) ∧
    sI.heap.UpToSlots s'.heap ∧ HandSPX.FlyingZ B X.stack a (Zc cls d) s'.heap ∧ H' a = none ∧ s'.os = sI.os ∧ AllBare s'.gens ∧ E cls d H' := by
  obtain ⟨a, B, H', cls, d, rfl, fl, hok, ub, na, os, ag, hE⟩ := c
  obtain ⟨G, gB, gF, gO⟩ := between (frs X.stack) fl.1
  have frame : ∀ b o, s.heap.get? b = some o → b ∈ frs X.stack → ∃ sl, G.get? b = some { o with slots := sl } := fun b o e hb => by
    obtain ⟨sl, q⟩ := ub.slot b o e hb
    exact ⟨sl, (gF b hb).trans q⟩
  have all : ∀ b o, s.heap.get? b = some o → ∃ o', G.get? b = some o' := fun b o e => by
    by_cases hb : b ∈ frs X.stack
    · obtain ⟨_, q⟩ := frame b o e hb
      exact ⟨_, q⟩
    · obtain ⟨o', q⟩ := ub.there b o e hb
      exact ⟨o', gB b o' q⟩
  have J := I.call (ch := []) (h' := G) (g' := s'.gens) (d' := s'.drawn) (t' := s'.toks)
    ⟨fun b o e n hb _ => gB b o (ub.keep b o e n hb), fun b o e _ hb _ => frame b o e hb, fun b o e n _ => ub.free b o e n, fun b o e _ => all b o e, ub.tups, ub.frzs, ub.tbls⟩ (hok.kept gB) ag (fun _ z => nomatch z)
  exact ⟨a, B, _, H', cls, d, rfl, J, fun b o e hb => (gO b o e).2 hb, Heap.UpToSlots.of_keeps fun b o e => (gO b o e).1, fl, na, os, ag, hE⟩
/-- an exception that a call in a comprehension's block let out goes on in the def's own frame -/
theorem comp_out {W : WX} {s3 : Shared} {H3 : Hp} {scope : Scope} {ce : Env} {fp : List Addr} {pinsB : List (Addr × Obj)} {σB : St} {HB : Hp} {sB : Shared} {u : Value} (tk : Takes X W) (hW : ∀ cls d H', E cls d H' → W cls d σ H') (hst : X.stack = X.env :: X.outer) (hf : X.env.frame = some X.env.locals) (cF : ce.frame = X.env.frame)
    (back : ∀ {p6 : List (Addr × Obj)} {σ6 : St} {H6 : Hp} {s6 : Shared}, Inv (X.blk s3 H3 scope ce fp) p6 σ6 H6 s6 → Inv X pins σ H6 s6) (hC : ∀ {H6 : Hp}, H6 ce.locals = none → FpOk X pins H6 ce.locals)
    (I : Inv (X.blk s3 H3 scope ce fp) pinsB σB HB sB) (c : CX X.prog X.w X.stack HB sB E u s') : notedBy (model X.prog X.w) X.A ce (CompFails (model X.prog X.w) X.A X.xe ce) u s' := by
  obtain ⟨a, B, sI, H', cls, d, rfl, J, nb, up, fl, na, os, ag, hE⟩ := of_callF (X := X.blk s3 H3 scope ce fp) I c
  have nb : ∀ b o, sI.heap.get? b = some o → b ∉ frs X.stack → B.get? b = some o := nb
  have fl : HandSPX.FlyingZ B X.stack a (Zc cls d) s'.heap := fl
  have J0 : Inv X pins σ H' sI := back J
  obtain ⟨m, hm, _⟩ := J.loc
  have hm : sI.heap.Ns ce.locals m := hm
  have nC : H' ce.locals = none := J.free
  obtain ⟨f0, f1, f2, f3, f4, f5⟩ := hC nC
  have kN : ∀ b, B.get? b = none → (PySem.W.hideAll B [ce.locals]).get? b = none := fun b e => by
    cases q : (PySem.W.hideAll B [ce.locals]).get? b with
    | none => rfl
    | some o => rw [PySem.W.of_hideAll _ q] at e; cases e
  have J1 : Inv X pins σ H' { sI with heap := PySem.W.hideAll sI.heap [ce.locals] } := J0.turned (t' := sI.toks) (fun b o hb e => PySem.W.hideAll_get _ e (by simpa using hb)) f0 f1 f3 f4 f5
  have hfr : X.A.frames = some (X.env :: X.outer) := by rw [J0.ok.frames, hst]
  have fl0 : HandSPX.FlyingZ (PySem.W.hideAll B [ce.locals]) (X.env :: X.outer) a (Zc cls d) s'.heap := by
    rw [← hst]
    exact ⟨fun b o hb => fl.1 b o (PySem.W.of_hideAll _ hb), kN _ fl.2.1, funFrames_shrink kN fl.2.2.1, tracedZ_shrink kN fl.2.2.2⟩
  show wpAny _ _ (noteFrame (.ref a) ce) _ _ s'
  rw [noteFrame_env _ cF]
  refine HandSPX.looks_onZ Zc.steady hfr hf fl0 fun h1 held up1 => ?_
  have hn1 : h1.Ns ce.locals m := (up.trans up1).ns hm
  refine ⟨m, hn1, fun h2 m2 hn2 hs2 => ?_⟩
  have noB : ∀ b o, (PySem.W.hideAll B [ce.locals]).get? b = some o → b ≠ ce.locals := fun b o e q => by
    rw [q, PySem.W.hideAll_none _ List.mem_cons_self] at e; cases e
  obtain ⟨g1, g2, g3, g4⟩ := held
  have k1 : (PySem.W.hideAll B [ce.locals]).StaysIn h2 := fun b o hb => (hs2.2 b (noB b o hb)).trans (g1 b o hb)
  have k3 : h2.FunFrames (PySem.W.hideAll B [ce.locals]) (X.env :: X.outer) := Heap.FunFrames.sameBut hs2 hn2 g3
  have k4 := tracedZ_same g4 hn1 hs2
  obtain ⟨oe, vs, T, oT, ts, he, hz, hd, h1', hnT, hTe, hT, hdT, h3⟩ := id k4
  unfold PySem.passOn
  refine wpAny_bind (wpAny_field he hd h1' ?_)
  rw [if_neg (show ¬ ((Value.ref T == Value.none) = true) from by simp)]
  have fin : wpAny (model X.prog X.w) X.A (setFlight (.ref a) ce.frame) (fun _ s4 => wpAny (model X.prog X.w) X.A (throw (.ref a) : Sem Value) (fun _ _ => False) X.xe s4) X.xe { s' with heap := h2 } := by
    rw [cF, hf]
    refine HandSPX.setFlight_anyZ k1 k3 k4 fun h4 b4 f4' t4 up4 => wpAny_throw (tk _ _ ?_)
    refine ⟨a, PySem.W.hideAll B [ce.locals], { sI with heap := PySem.W.hideAll sI.heap [ce.locals] }, pins, σ, H', cls, d, rfl, J1, fun b o e hb => ?_, fun b o e hnf => ?_, .inr (.inr ?_), na, os, ag, hW _ _ _ hE⟩
    · have hbc : b ≠ ce.locals := fun q => by
        have e' : (PySem.W.hideAll sI.heap [ce.locals]).get? b = some o := e
        rw [q, PySem.W.hideAll_none _ List.mem_cons_self] at e'; cases e'
      exact PySem.W.hideAll_get _ (nb b o (PySem.W.of_hideAll _ e) hb) (by simpa using hbc)
    · have hbc : b ≠ ce.locals := fun q => by
        have e' : (PySem.W.hideAll sI.heap [ce.locals]).get? b = some o := e
        rw [q, PySem.W.hideAll_none _ List.mem_cons_self] at e'; cases e'
      obtain ⟨sl, e1⟩ := (up.trans up1) b o (PySem.W.of_hideAll _ e) hnf
      obtain ⟨sl2, e2⟩ := up4 b _ ((hs2.2 b hbc).trans e1) hnf
      exact ⟨sl2, e2⟩
    · rw [hst]
      exact ⟨b4, g2, f4', t4⟩
  first
    | exact wpAny_bind (wpAny_pure (wpAny_bind fin))
    | exact wpAny_bind fin
end
end L2
namespace L2
open PySem PySem.Spec PyProof.Rows
section
variable {X : Cx} {pins : List (Addr × Obj)} {σ : St} {E : XK}
/-- the block of a comprehension that begins at s3: what of its states is needed outside -/
structure BlkAt (X : Cx) (pins : List (Addr × Obj)) (σ : St) (s3 : Shared) (H3 : Hp) (scope : Scope) (ce : Env) (fp : List Addr) : Prop where
  here : Inv X pins σ H3 s3
  loc : ce.locals = s3.heap.objs.size
  frame : ce.frame = X.env.frame
  its : ∀ b ∈ fp, FpOk X pins H3 b
namespace BlkAt
variable {s3 : Shared} {H3 : Hp} {scope : Scope} {ce : Env} {fp : List Addr}
theorem back (B : BlkAt X pins σ s3 H3 scope ce fp) {p6 : List (Addr × Obj)} {σ6 : St} {H6 : Hp} {s6 : Shared} (I6 : Inv (X.blk s3 H3 scope ce fp) p6 σ6 H6 s6) : Inv X pins σ H6 s6 :=
  B.here.call' (ch := fp) I6.os I6.base I6.hok I6.bare fun b hb =>
    have q := B.its b hb
    ⟨q.2.2.2.1, q.2.1, q.2.2.2.2.1, q.2.2.2.2.2⟩
theorem let' (B : BlkAt X pins σ s3 H3 scope ce fp) {H6 : Hp} (n : H6 ce.locals = none) : FpOk X pins H6 ce.locals := by
  rw [B.loc] at n ⊢
  exact B.here.fpOk (Nat.le_refl _) n
/-- the iterator's own objects within the block -/
theorem stat (B : BlkAt X pins σ s3 H3 scope ce fp) {σ' : St} {H' : Hp} {s' : Shared} (I : Inv (X.blk s3 H3 scope ce fp) [] σ' H' s') (n : ∀ b ∈ fp, H' b = none) : ∀ b ∈ fp, FpOk (X.blk s3 H3 scope ce fp) [] H' b := fun b hb => by
  have e := I.ok.exf b hb
  exact ⟨n b hb, e.1, I.ok.exfs b hb, .inl hb, fun x c q => e.2 x c q, fun p hp => absurd hp (by simp)⟩
/-- an element's call that lets an exception out -/
theorem passes (B : BlkAt X pins σ s3 H3 scope ce fp) {W : WX} (tk : Takes X W) (hW : ∀ cls d H', E cls d H' → W cls d σ H') (hst : X.stack = X.env :: X.outer) (hf : X.env.frame = some X.env.locals) :
    Passes (CX X.prog X.w) ((X.blk s3 H3 scope ce fp).wish (notedBy (model X.prog X.w) X.A ce (CompFails (model X.prog X.w) X.A X.xe ce))) E := fun p6 σ6 H6 s6 u s' I c =>
  comp_out tk hW hst hf B.frame (fun I6 => B.back I6) (fun n => B.let' n) I.unwish c
end BlkAt
/-- [elt for target in iter if ..], the element may let an exception out -/
theorem pe_lcE {W : WX} {elt tg iter : Expr} {ifs : List Expr} {scope : Scope} {own : List (Str × Nat)} {pos : Pos} {wi : TI} {g : TG} {tt : TT} {te : TE} {Ex : XK} (tk : Takes X W) (hW : ∀ cls d σ H', Ex cls d H' → W cls d σ H') (hst : X.stack = X.env :: X.outer) (hf : X.env.frame = some X.env.locals)
    (hc : X.calm = true) (hN : X.N.Nodup) (hi : PI X tg iter wi) (ok : BlkOk X.N X.env.scope scope own)
    (hg : ∀ (s : Shared) (H : Hp) (C : Addr) (cl : List (Str × Addr)) (fp : List Addr), PG (X.blk s H scope (compEnvC scope cl C X.env) fp) tg g) (ht : ∀ (s : Shared) (H : Hp) (C : Addr) (cl : List (Str × Addr)) (fp : List Addr), PTs (X.blk s H scope (compEnvC scope cl C X.env) fp) ifs tt)
    (he : ∀ (s : Shared) (H : Hp) (C : Addr) (cl : List (Str × Addr)) (fp : List Addr) (xe : Value → Shared → Prop), Passes (CX X.prog X.w) ((X.blk s H scope (compEnvC scope cl C X.env) fp).wish xe) Ex → PE ((X.blk s H scope (compEnvC scope cl C X.env) fp).wish xe) elt te) (hs : ∀ x, foldedSetIterable iter X.env x = pure x := by intro _; rfl) :
    PE X (.ListComp elt [⟨tg, iter, ifs, 0⟩] scope pos) (tLc wi g tt te (own.map (·.2))) := by
  refine ⟨fun pins s σ H Q I h => ?_⟩
  rw [eval_ListComp]
  have cells : ∀ y ∈ scope.names, y.2 = .free → ∃ c, X.env.cells.lookup y.1 = some c := fun y hy e => (ok.free y hy e).elim (fun k => I.ok.has _ (.inl k)) fun k => I.ok.has _ (.inr k)
  refine comprehension_at (use := none) rfl hs (closure_ok cells) ok.kind (fun y hy e => by rw [ok.uniq y hy, e]) (thn (hi.run pins s σ H _ I h) fun _ _ h1 => thn h1 fun _ s2 h2 => ?_)
  obtain ⟨it, fp, tn, J, H2, rfl, I2, T, st2, f2, q⟩ := h2
  refine wpAny_newObj_type (newEnv_comp ?_) (by show 0 ≤ sizeLine; decide)
  -- D: the new list; C: the block
  obtain ⟨D, hD⟩ : ∃ D, s2.heap.objs.size = D := ⟨_, rfl⟩
  obtain ⟨Wn, ⟨m0, w0⟩, turn⟩ := q D (I2.hok.fresh (Nat.le_of_eq hD))
  have fpLt : ∀ b ∈ fp, b < s2.heap.objs.size := fun b hb => by
    obtain ⟨_, e, _⟩ := T.obj _ _ st2 b hb
    exact Heap.lt_size e
  have pushed : ∀ b o, s2.heap.get? b = some o → (s2.heap.push { cls := .type "list", data := .seq ([] : List Value).toArray }).get? b = some o := fun b o e => Heap.get?_push_of_some _ e
  obtain ⟨s3, hs3⟩ : ∃ s3 : Shared, s3 = { s2 with heap := s2.heap.push { cls := .type "list", data := .seq ([] : List Value).toArray } } := ⟨_, rfl⟩
  have hp3 : s3.heap = s2.heap.push { cls := .type "list", data := .seq ([] : List Value).toArray } := by rw [hs3]
  obtain ⟨H3, hH3⟩ : ∃ H3, H3 = upd H2 D (.lst []) := ⟨_, rfl⟩
  have I3 : Inv X pins σ H3 s3 := by
    rw [hs3, hH3]
    refine I2.laid (t' := s2.toks) pushed (Nat.le_of_eq hD) ⟨Nat.zero_le _, [], 0, .nil, ?_⟩
    rw [← hD]
    exact Heap.get?_push_size _ rfl
  have f3 : ∀ b ∈ fp, FpOk X pins H3 b ∧ b < s3.heap.objs.size := fun b hb => by
    have lt := fpLt b hb
    obtain ⟨a1, a2⟩ := f2 b hb
    refine ⟨⟨?_, a2⟩, by rw [hp3, Heap.size_push]; exact Nat.lt_succ_of_lt lt⟩
    rw [hH3, upd_ne (by rw [← hD]; exact Nat.ne_of_lt lt)]
    exact a1
  obtain ⟨ce, hce⟩ : ∃ ce, ce = compEnvC scope (cellsFrom (s3.heap.objs.size + 1) scope.names (cloFrom X.env.cells scope.names [])) s3.heap.objs.size X.env := ⟨_, rfl⟩
  obtain ⟨s4, hs4⟩ : ∃ s4 : Shared, s4 = { s3 with heap := pushCells (s3.heap.push { cls := .type "dict", data := .dict #[] }) scope.names } := ⟨_, rfl⟩
  have I4 : Inv (X.blk s3 H3 scope ce fp) [] (wipe σ (own.map (·.2))) H3 s4 := by
    rw [hce, hs4]
    exact block_start I3 ok hN f3
  have B : BlkAt X pins σ s3 H3 scope ce fp := ⟨I3, by rw [hce]; rfl, by rw [hce]; rfl, fun b hb => (f3 b hb).1⟩
  have st4 : tn 0 s4.heap := T.keep _ _ _ st2 fun b _ o e => by
    rw [hs4]
    refine pushCells_keeps _ _ _ _ (Heap.get?_push_of_some _ ?_)
    rw [hp3]
    exact pushed b o e
  have pg : PG (X.blk s3 H3 scope ce fp) tg g := by rw [hce]; exact hg _ _ _ _ _
  have pt : PTs (X.blk s3 H3 scope ce fp) ifs tt := by rw [hce]; exact ht _ _ _ _ _
  have pe : PE ((X.blk s3 H3 scope ce fp).wish (notedBy (model X.prog X.w) X.A ce (CompFails (model X.prog X.w) X.A X.xe ce))) elt te := by
    have z := B.passes tk (fun cls d H' => hW cls d σ H') hst hf
    rw [hce] at z ⊢
    exact he _ _ _ _ _ _ z
  rw [← hH3] at w0
  have goal : codeAny (model X.prog X.w) X.A (.compLoop (.ListComp elt [⟨tg, iter, ifs, 0⟩] scope pos) 0 (.ref it) (.ref D) ce) (compEnds (model X.prog X.w) X.A X.xe none (EP X pins σ Q) (.ref D) ce) s4 := by
    refine compLoop_any (fun n s' => ∃ i H', Inv (X.blk s3 H3 scope ce fp) [] (wipe σ (own.map (·.2))) H' s' ∧ tn i s'.heap ∧ (∀ b ∈ fp, H' b = none) ∧ Wn i n H') ?_ m0 ⟨0, H3, I4, st4, fun b hb => (f3 b hb).1.1, w0⟩
    rintro n s5 ⟨i, H5, I5, st5, n5, w5⟩
    rcases turn i n H5 w5 with ⟨stop, qq⟩ | ⟨go, Nx, less, step⟩
    · refine thnF (T.done (X.blk s3 H3 scope ce fp) rfl rfl rfl hc i [] s5 _ H5 (fun _ _ => False) I5 (B.stat I5 n5) st5 stop) fun r s6 ⟨hr, I6⟩ => ?_
      subst hr
      obtain ⟨f0, f1, _, g3, g4, g5⟩ := B.let' (H6 := H5) I6.free
      obtain ⟨m, hn, _⟩ := I6.loc
      refine ⟨m, hn, fun h7 sb => ?_⟩
      exact ⟨.ref D, H5, (B.back I6).turned (t' := s6.toks) (fun b o hb e => (sb.2 b hb).trans e) f0 f1 g3 g4 g5, rfl, qq⟩
    · refine thnF (T.item (X.blk s3 H3 scope ce fp) rfl rfl rfl hc i [] s5 _ H5 (fun _ _ => False) I5 (B.stat I5 n5) st5 go) fun r s6 ⟨u, hr, h6⟩ => ?_
      subst hr
      refine thnF h6 fun _ s7 ⟨x, H7, I7, r7, y7, st7, n7⟩ => ?_
      have I7p := I7.pinned (B.stat I7 n7) (T.obj _ _ st7)
      refine thnF (pg.run _ s7 _ H7 x u _ I7p r7 (step x H7 y7)) fun _ s8 ⟨σ8, H8, I8, hw8, q8⟩ => ?_
      refine thnF (pt.run _ s8 σ8 H8 _ I8 q8) fun b s9 ⟨H9, I9, q9⟩ => ?_
      have over : ∀ {s' : Shared} {H' : Hp}, Inv (X.blk s3 H3 scope ce fp) ([] ++ pinsAt fp s7.heap) σ8 H' s' → Nx H' → ∃ m, m < n ∧ ∃ i H', Inv (X.blk s3 H3 scope ce fp) [] (wipe σ (own.map (·.2))) H' s' ∧ tn i s'.heap ∧ (∀ b ∈ fp, H' b = none) ∧ Wn i m H' := by
        intro s' H' Ip nx
        obtain ⟨m', lt, w'⟩ := less H' nx
        have still : ∀ b ∈ fp, ∀ o, s7.heap.get? b = some o → s'.heap.get? b = some o ∧ H' b = none := fun b hb o e => by
          have z := Ip.pin (b, o) (List.mem_append_right _ (List.mem_append_right _ (mem_pinsAt hb e)))
          exact ⟨z.1, z.2.1⟩
        refine ⟨m', lt, i + 1, H', (Ip.unpinned (pins := [])).weak (by rw [← hw8, wipe_length]) (fun j v e => ?_), T.keep _ _ _ st7 fun b hb o e => (still b hb o e).1, fun b hb => ?_, w'⟩
        · rw [← hw8] at e
          exact (wipe_some e).1
        · obtain ⟨o, e, _⟩ := T.obj _ _ st7 b hb
          exact (still b hb o e).2
      cases b with
      | false =>
        simp only [Bool.false_eq_true, if_false] at q9 ⊢
        exact over I9 q9
      | true =>
        simp only [if_true] at q9 ⊢
        refine wpAny_mono (pe.run _ s9 σ8 H9 _ (I9.wish _) q9) (fun z s10 ⟨yv, H10, I10, r10, acc, hD10, hz10, nx⟩ => ?_) fun u s' x => x
        exact app_ok (X := X.blk s3 H3 scope ce fp) I10.unwish hD10 hz10 r10 fun s11 I11 => over I11 nx
  have fin := codeAny_compStart_list goal (T.self X.A 0 _ _ _ st4 goal)
  rw [hs4, hce, hs3, ← hD] at fin
  exact fin
end
end L2

namespace DL
open PySem PySem.Spec PyProof.Rows L2 TL
variable {XW : DXK}
theorem liftLcE {K : KG} {ow : Bool} {di : DTI} {g : TG} {b : DV → DSt → Option DSt} {tt : DTT} {te : DTE} {vs : List Nat} (hg : TgtOk K.f g b vs) {σ : L2.St} {H : Hp} {VQ : VK} (h : liftE K (dLc ow di b tt te vs) σ H VQ) :
    tLc (liftI K di) g (liftT ⟨K.f, X0, L2.E0⟩ tt) (liftE K te) vs σ H VQ := by
  obtain ⟨F, O, S, Q, rs, sr, h, fin⟩ := h
  refine ⟨F, O, S, _, rs, sr, h, fun ds O1 h1 J H1 F1 s1 y D hD => ?_⟩
  obtain ⟨hf1, ho1⟩ := s1.rs.free hD
  refine ⟨fun i m H' => m = ds.length - i ∧ ∃ F' O' acc vacc, Stp K F1 O1 H1 F' O' H' ∧ H' D = some (.lst vacc) ∧ F' D = none ∧ O' D = none ∧ Reps K F' vacc acc ∧ lcW ow b tt te (dwipe S vs) Q (ds.drop i) acc O',
    ⟨_, rfl, F1, O1, [], [], (Stp.refl s1.rs).side s1.rs hD hf1 ho1 _, upd_same, hf1, ho1, .nil, h1⟩, ?_⟩
  rintro i m H' ⟨em, F', O', acc, vacc, s', hd', hf', ho', ra, h'⟩
  obtain ⟨y1, y2⟩ := y i O' H' F' s'.sub s'.rs
  by_cases hi : i < ds.length
  · have e0 : ds[i]? = some ds[i] := List.getElem?_eq_getElem hi
    rw [List.drop_eq_getElem_cons hi] at h'
    obtain ⟨hgo, hy⟩ := y1 _ e0
    refine .inr ⟨hgo, fun H2 => ∃ F' O' acc vacc, Stp K F1 O1 H1 F' O' H2 ∧ H2 D = some (.lst vacc) ∧ F' D = none ∧ O' D = none ∧ Reps K F' vacc acc ∧ lcW ow b tt te (dwipe S vs) Q (ds.drop (i + 1)) acc O', fun H2 q => ⟨_, ?_, rfl, q⟩, fun x H2 q => ?_⟩
    · omega
    · obtain ⟨F3, s3, r3⟩ := hy x H2 q
      unfold lcW at h'
      obtain ⟨S2, e2, h'⟩ := onSome_ex h'
      refine hg.ok s3.rs.z r3 (((sr.mono s1.sub).mono s'.sub).mono s3.sub |>.wipe vs) e2 fun σ2 sr2 ew => ⟨ew.trans (wipe_wipe fun _ h => h), F3, O', S2, _, s3.rs.drop, sr2, h', fun c O4 h4 H4 F4 s4' => ?_⟩
      have s4 := s4'.up s3.rs
      have st4 := s3.trans s4
      dsimp only at h4 ⊢
      split
      · rename_i e; rw [if_pos e] at h4
        refine ⟨F4, O4, S2, _, s4.rs, sr2.mono s4.sub, h4, fun d O5 h5 v H5 F5 s5 r5 => ?_⟩
        have st5 := st4.trans s5
        obtain ⟨k1, k2⟩ := st5.keep D _ hd' ho'
        have k3 := st5.nof D _ hd' ho' hf'
        exact ⟨vacc, k1, by rw [ra.len]; exact lc_line h5.1, F5, O5, _, _, (s'.trans st5).side s1.rs hD k3 k2 _, upd_same, k3, k2, (ra.mono st5.sub).append (.cons r5 .nil), h5.2⟩
      · rename_i e; rw [if_neg e] at h4
        obtain ⟨k1, k2⟩ := st4.keep D _ hd' ho'
        have k3 := st4.nof D _ hd' ho' hf'
        exact ⟨F4, O4, acc, vacc, s'.trans st4, k1, k3, k2, ra.mono st4.sub, h4⟩
  · rw [List.drop_eq_nil_of_le (by omega)] at h'
    exact .inl ⟨y2 (by omega), endLc_ok s1.rs s' hD hd' hf' ho' ra h' (fin.step s1)⟩
theorem Good.blk {X : Cx} {g : G} {s : Shared} {H : Hp} {scope : Scope} {ce : Env} {fp : List Addr} {xe : Value → Shared → Prop} (hp : Passes (L2.CX X.prog X.w) ((X.blk s H scope ce fp).wish xe) g.2) (l : ∀ C fs O, XW C fs O → g.1 C fs O) : Good XW ((X.blk s H scope ce fp).wish xe) g := by
  refine ⟨⟨hp, fun e => ?_⟩, l⟩
  have e' : X.stack = ce :: X.stack := e
  have := congrArg List.length e'
  rw [List.length_cons] at this
  omega
/-- [elt for target in iter if ..], the element may let an exception out -/
theorem de_lcE {X : Cx} (ow : Bool) {elt tg iter : Expr} {ifs : List Expr} {scope : Scope} {own : List (Str × Nat)} {pos : Pos} {di : DTI} {g : TG} {b : DV → DSt → Option DSt} {tt : DTT} {te : DTE} (hc : X.calm = true) (hN : X.N.Nodup) (hi : DI XW X tg iter di) (ok : BlkOk X.N X.env.scope scope own) (hT : TgtOk X.K g b (own.map (·.2)))
    (hg : ∀ (s : Shared) (H : Hp) (C : Addr) (cl : List (Str × Addr)) (fp : List Addr), PG (X.blk s H scope (compEnvC scope cl C X.env) fp) tg g) (ht : ∀ (s : Shared) (H : Hp) (C : Addr) (cl : List (Str × Addr)) (fp : List Addr), DTs X0 (X.blk s H scope (compEnvC scope cl C X.env) fp) ifs tt)
    (he : ∀ (s : Shared) (H : Hp) (C : Addr) (cl : List (Str × Addr)) (fp : List Addr) (xe : Value → Shared → Prop), DE XW ((X.blk s H scope (compEnvC scope cl C X.env) fp).wish xe) elt te) (hst : X.stack = X.env :: X.outer := by rfl) (hf : X.env.frame = some X.env.locals := by rfl) (hs : ∀ x, foldedSetIterable iter X.env x = pure x := by intro _; rfl) :
    DE XW X (.ListComp elt [⟨tg, iter, ifs, 0⟩] scope pos) (dLc ow di b tt te (own.map (·.2))) :=
  ⟨fun g0 hg0 => PE_imp (pe_lcE (W := fun cls d _ H => g0.2 cls d H) (Ex := g0.2) (te := liftE (kg X g0) te) (tt := liftT ⟨X.K, X0, L2.E0⟩ tt) (hg0.takes hst) (fun _ _ _ _ h => h) hst hf hc hN (hi.pi g0 hg0) ok hg (fun s H C cl fp => (ht s H C cl fp).pts (X0, L2.E0) (good_of takesL fun _ _ _ h => h))
    (fun s H C cl fp xe hp => (he s H C cl fp xe).pe g0 (Good.blk hp hg0.2)) hs) fun _ _ _ h => liftLcE hT h⟩
end DL

set_option Elab.async false
set_option linter.all false
set_option maxRecDepth 100000
namespace W1
open PySem PySem.Spec PyProof.Rows L2 TL DL
/-! ### a row's words up to what is none -/
inductive ScanO : List Nat → Nat → List Wd → Option Nat → Prop
  | nil (e : Nat) : ScanO [] e [] none
  | rem (r : List Nat) (e : Nat) : ScanO (35 :: r) e [] none
  | blank {r : List Nat} {e : Nat} {ws : List Wd} {o : Option Nat} : ScanO r (e + 1) ws o → ScanO (32 :: r) e ws o
  | word {c : Nat} {r : List Nat} {e : Nat} {k : Str} {w : List Nat} {ws : List Wd} {o : Option Nat} : c ≠ 35 → c ≠ 32 → wordL (c :: r) = (k, w) → k ≠ "" → ScanO ((c :: r).drop w.length) (e + w.length) ws o → ScanO (c :: r) e ((k, w, e) :: ws) o
  | bad {c : Nat} {r : List Nat} {e : Nat} : c ≠ 35 → c ≠ 32 → (wordL (c :: r)).1 = "" → ScanO (c :: r) e [] (some e)
theorem scanO_tot : ∀ (n : Nat) (r : List Nat) (e : Nat), r.length ≤ n → ∃ ws o, ScanO r e ws o
  | _, [], e, _ => ⟨_, _, .nil e⟩
  | 0, _ :: _, _, h => by simp at h
  | n + 1, c :: r, e, h => by
    by_cases h1 : c = 35
    · subst h1; exact ⟨_, _, .rem r e⟩
    by_cases h2 : c = 32
    · subst h2
      obtain ⟨ws, o, q⟩ := scanO_tot n r (e + 1) (by simp at h; omega)
      exact ⟨_, _, .blank q⟩
    by_cases h3 : (wordL (c :: r)).1 = ""
    · exact ⟨_, _, .bad h1 h2 h3⟩
    have hb := wordL_bounds (c := c) (r := r)
    obtain ⟨ws, o, q⟩ := scanO_tot n ((c :: r).drop (wordL (c :: r)).2.length) (e + (wordL (c :: r)).2.length) (by rw [List.length_drop]; simp only [List.length_cons] at h ⊢; omega)
    exact ⟨_, _, .word h1 h2 rfl h3 q⟩
theorem scanO_nil {e : Nat} {ws : List Wd} {o : Option Nat} (h : ScanO [] e ws o) : ws = [] ∧ o = none := by cases h; exact ⟨rfl, rfl⟩
theorem scanO_hash {r : List Nat} {e : Nat} {ws : List Wd} {o : Option Nat} (h : ScanO (35 :: r) e ws o) : ws = [] ∧ o = none := by
  cases h with
  | rem => exact ⟨rfl, rfl⟩
  | word h1 => exact absurd rfl h1
  | bad h1 => exact absurd rfl h1
theorem scanO_blank {r : List Nat} {e : Nat} {ws : List Wd} {o : Option Nat} (h : ScanO (32 :: r) e ws o) : ScanO r (e + 1) ws o := by
  cases h with
  | blank h => exact h
  | word _ h2 => exact absurd rfl h2
  | bad _ h2 => exact absurd rfl h2
theorem scanO_cons {c : Nat} {r : List Nat} {e : Nat} {ws : List Wd} {o : Option Nat} (h : ScanO (c :: r) e ws o) (h1 : c ≠ 35) (h2 : c ≠ 32) :
    ((wordL (c :: r)).1 = "" ∧ o = some e) ∨ ∃ k w ws', wordL (c :: r) = (k, w) ∧ k ≠ "" ∧ ws = (k, w, e) :: ws' ∧ ScanO ((c :: r).drop w.length) (e + w.length) ws' o := by
  cases h with
  | rem => exact absurd rfl h1
  | blank => exact absurd rfl h2
  | word _ _ h3 h4 h5 => exact .inr ⟨_, _, _, h3, h4, rfl, h5⟩
  | bad _ _ h3 => exact .inl ⟨h3, rfl⟩
theorem scanO_none {r : List Nat} {e : Nat} {ws : List Wd} {o : Option Nat} (h : ScanO r e ws o) (ho : o = none) : Scan r e ws := by
  induction h with
  | nil => exact .nil _
  | rem => exact .rem _ _
  | blank _ ih => exact .blank (ih ho)
  | word h1 h2 h3 h4 _ ih => exact .word h1 h2 h3 h4 (ih ho)
  | bad => cases ho
theorem scanO_lt {r : List Nat} {e : Nat} {ws : List Wd} {o : Option Nat} (h : ScanO r e ws o) : ∀ x, o = some x → x < e + r.length := by
  induction h with
  | nil => intro x h; cases h
  | rem => intro x h; cases h
  | blank _ ih => intro x h; have := ih x h; simp only [List.length_cons]; omega
  | @word c r e k w ws o h1 h2 h3 h4 h5 ih =>
    intro x h
    have := ih x h
    have hb := wordL_bounds (c := c) (r := r)
    rw [h3] at hb
    dsimp only at hb
    rw [List.length_drop] at this
    omega
  | bad => intro x h; cases h; simp
theorem encRows_app : ∀ {a b : List (List Wd)} {k : Nat}, encRows k (a ++ b) = encRows k a ++ encRows (k + a.length) b
  | [], b, k => by simp [encRows]
  | w :: a, b, k => by
    simp only [List.cons_append, encRows, encRows_app (a := a), List.length_cons]
    rw [show k + 1 + a.length = k + (a.length + 1) by omega]
/-- the first of a text's rows with what is no word -/
def BadAt (rs : List Str) (i e : Nat) : Prop := ∃ r ws, rs[i]? = some r ∧ ScanO (tl r) 0 ws (some e) ∧ ∀ j, j < i → ∃ r' ws', rs[j]? = some r' ∧ Scan (tl r') 0 ws'
/-- what the program says of what is no word -/
def fltW (n : Int) (e : Nat) : Option (List (Str × DV)) := some [("why", .str "word"), ("place", .tup [.int n, .int ((e : Int) + 1)]), ("file", .str ""), ("stage", .str "words")]
/-! ### one reading alone -/
theorem scanO_det {r : List Nat} {e : Nat} {ws : List Wd} {o : Option Nat} (h : ScanO r e ws o) : ∀ {ws' : List Wd} {o' : Option Nat}, ScanO r e ws' o' → ws = ws' ∧ o = o' := by
  induction h with
  | nil =>
    intro ws' o' g
    obtain ⟨a, b⟩ := scanO_nil g
    exact ⟨a.symm, b.symm⟩
  | rem =>
    intro ws' o' g
    obtain ⟨a, b⟩ := scanO_hash g
    exact ⟨a.symm, b.symm⟩
  | blank _ ih =>
    intro ws' o' g
    exact ih (scanO_blank g)
  | word h1 h2 h3 h4 _ ih =>
    intro ws' o' g
    rcases scanO_cons g h1 h2 with ⟨a, _⟩ | ⟨k, w, ws2, a, _, rfl, c⟩
    · rw [h3] at a; exact absurd a h4
    · rw [h3] at a
      cases a
      obtain ⟨x, y⟩ := ih c
      exact ⟨by rw [x], y⟩
  | bad h1 h2 h3 =>
    intro ws' o' g
    rcases scanO_cons g h1 h2 with ⟨a, b⟩ | ⟨k, w, ws2, a, b, _, _⟩
    · subst b
      cases g with
      | bad => exact ⟨rfl, rfl⟩
      | word _ _ a b => rw [a] at h3; exact absurd h3 b
      | blank => exact absurd rfl h2
    · rw [a] at h3; exact absurd h3 b
theorem scan_O {r : List Nat} {e : Nat} {ws : List Wd} (h : Scan r e ws) : ScanO r e ws none := by
  induction h with
  | nil => exact .nil _
  | rem => exact .rem _ _
  | blank _ ih => exact .blank ih
  | word h1 h2 h3 h4 _ ih => exact .word h1 h2 h3 h4 ih
theorem scanRows_at : ∀ {rs : List Str} {wss : List (List Wd)} {i : Nat} {r : Str}, ScanRows rs wss → rs[i]? = some r → ∃ ws, Scan (tl r) 0 ws := fun {rs wss i r} h e => by
  have hl := scanRows_len h
  obtain ⟨h1, _⟩ := List.getElem?_eq_some_iff.mp e
  have hi : i < wss.length := by omega
  exact ⟨_, scanRows_get h e (List.getElem?_eq_getElem hi)⟩
theorem bad_no {rs : List Str} {wss : List (List Wd)} {i e : Nat} (h : ScanRows rs wss) (b : BadAt rs i e) : False := by
  obtain ⟨r, ws, h1, h2, _⟩ := b
  obtain ⟨ws', h3⟩ := scanRows_at h h1
  have := (scanO_det (scan_O h3) h2).2
  cases this
theorem bad_one {rs : List Str} {i e j f : Nat} (a : BadAt rs i e) (b : BadAt rs j f) : i = j ∧ e = f := by
  obtain ⟨r, ws, a1, a2, a3⟩ := a
  obtain ⟨r', ws', b1, b2, b3⟩ := b
  have hij : i = j := by
    rcases Nat.lt_trichotomy i j with h | h | h
    · obtain ⟨s, v, s1, s2⟩ := b3 i h
      rw [a1] at s1; cases s1
      have := (scanO_det (scan_O s2) a2).2
      cases this
    · exact h
    · obtain ⟨s, v, s1, s2⟩ := a3 j h
      rw [b1] at s1; cases s1
      have := (scanO_det (scan_O s2) b2).2
      cases this
  subst hij
  rw [a1] at b1; cases b1
  have := (scanO_det a2 b2).2
  cases this
  exact ⟨rfl, rfl⟩
/-! ### a row ahead of its remark -/
def splitH : List Nat → List (List Nat)
  | [] => [[]]
  | c :: r => if c = 35 then [] :: splitH r else match splitH r with
    | [] => [[c]]
    | x :: xs => (c :: x) :: xs
theorem splitH_hd : ∀ l : List Nat, ∃ xs, splitH l = l.takeWhile (fun c => decide (c ≠ 35)) :: xs
  | [] => ⟨[], rfl⟩
  | c :: r => by
    obtain ⟨xs, e⟩ := splitH_hd r
    unfold splitH
    by_cases h : c = 35
    · subst h
      exact ⟨splitH r, by simp⟩
    · rw [if_neg h, e]
      exact ⟨xs, by simp [h]⟩
theorem splitH_no : ∀ {l : List Nat}, ∀ x ∈ splitH l, 35 ∉ x
  | [], x, h => by simp [splitH] at h; subst h; simp
  | c :: r, x, h => by
    obtain ⟨ys, e⟩ := splitH_hd r
    have ih := splitH_no (l := r)
    unfold splitH at h
    rw [e] at h ih
    split at h
    · rcases List.mem_cons.mp h with rfl | h
      · simp
      · exact ih x h
    · rename_i hc
      rcases List.mem_cons.mp h with rfl | h
      · intro q
        rcases List.mem_cons.mp q with q | q
        · exact hc q.symm
        · exact ih _ List.mem_cons_self q
      · exact ih x (List.mem_cons_of_mem _ h)
theorem splitH_join : ∀ {l : List Nat}, TL.joinL [35] (splitH l) = l
  | [] => joinL_one
  | c :: r => by
    have ih := splitH_join (l := r)
    obtain ⟨ys, e⟩ := splitH_hd r
    generalize List.takeWhile (fun c => decide (c ≠ 35)) r = y at e
    unfold splitH
    rw [e] at ih ⊢
    by_cases hc : c = 35
    · subst hc
      rw [if_pos rfl, joinL_cons, ih]; rfl
    · rw [if_neg hc]
      cases ys with
      | nil => rw [joinL_one] at ih ⊢; rw [ih]
      | cons z zs => rw [joinL_cons] at ih ⊢; rw [← ih]; rfl
theorem split_hash (r : Str) : ∃ xs, Txt.split r (Str.ofString "#") = ofL ((tl r).takeWhile (fun c => decide (c ≠ 35))) :: xs := by
  obtain ⟨ys, e⟩ := splitH_hd (tl r)
  have em : ((splitH (tl r)).map ofL).map tl = splitH (tl r) := by
    rw [List.map_map]
    conv => rhs; rw [← List.map_id (splitH (tl r))]
    exact List.map_congr_left fun x _ => tl_ofL x
  have hz : Txt.join "#" ((splitH (tl r)).map ofL) = r := by
    rw [str_ext, TL.join_eq, TL.tl_join, em]
    exact splitH_join
  have := split_join (y := "#") (s := 35) (S := []) rfl (by decide +kernel) (parts := (splitH (tl r)).map ofL) (by rw [e]; simp) (fun p hp => by
    obtain ⟨x, hx, rfl⟩ := List.mem_map.mp hp
    rw [tl_ofL]
    exact splitH_no x hx)
  rw [hz] at this
  refine ⟨ys.map ofL, ?_⟩
  rw [e] at this
  exact this
/-! ### the law's own word -/
def runW (r : List Nat) : List Nat := match r with
  | [] => []
  | c :: _ => if c ∈ letters then spanIn letters r else if c ∈ figs then spanIn figs r else [c]
def twoW (r : List Nat) : Bool := decide (r.take 2 = [60, 62]) || decide (r.take 2 = [60, 61])
def lawW (r : List Nat) : List Nat := if twoW r then r.take 2 else runW r
def oneS : List Nat := [40, 41, 44, 46, 61, 60, 43, 45, 42, 47]
/-- good, of a word that is no blank -/
def goodW (w : List Nat) : Bool := decide (w = [60, 62]) || (decide (w = [60, 61]) || (decide (w.length = 1) && decide (w.headD 0 ∈ oneS))) || (decide (ofL w ∈ ownW) ||
  ((decide (w.headD 0 ∈ letters) || decide (w.headD 0 ∈ figs)) && decide (w.length < 7) && !(decide (w.headD 0 ∈ figs) && decide (w.headD 0 = 48) && !decide (w = [48]))))
def kindW2 (w : List Nat) : Str := if ofL w ∈ ownW then "own" else if w.headD 0 ∈ letters then "name" else if w.headD 0 ∈ figs then "num" else "sign"
theorem span_hd {g : List Nat} {c : Nat} {t : List Nat} (h : c ∈ g) : ∃ s, spanIn g (c :: t) = c :: s := ⟨spanIn g t, by unfold spanIn; rw [List.takeWhile_cons, if_pos (by simpa using h)]⟩
theorem own_all : (ownW.all fun x => match tl x with | [] => false | c :: _ => decide (c ∈ letters)) = true := by decide +kernel
theorem own_hd {w : List Nat} (h : ofL w ∈ ownW) : w.headD 0 ∈ letters := by
  have := List.all_eq_true.mp own_all _ h
  rw [tl_ofL] at this
  cases w with
  | nil => cases this
  | cons c s => simpa using this
theorem let_not : ∀ c ∈ letters, c ∉ figs ∧ c ∉ oneS ∧ c ≠ 60 := by decide +kernel
theorem fig_not : ∀ c ∈ figs, c ∉ oneS ∧ c ≠ 60 := by decide +kernel
theorem two_hd {c : Nat} {r : List Nat} (h : c ≠ 60) : twoW (c :: r) = false := by
  unfold twoW
  cases r <;> simp [h]
theorem law_word {c : Nat} {r : List Nat} (h1 : c ≠ 32) (h2 : c ≠ 35) : (goodW (lawW (c :: r)) = true → wordL (c :: r) = (kindW2 (lawW (c :: r)), lawW (c :: r)) ∧ (wordL (c :: r)).1 ≠ "") ∧ (goodW (lawW (c :: r)) = false → (wordL (c :: r)).1 = "") := by
  by_cases hc : c ∈ letters
  · obtain ⟨n1, n2, n3⟩ := let_not c hc
    obtain ⟨s, es⟩ := span_hd (g := letters) (t := r) hc
    have e : lawW (c :: r) = c :: s := by unfold lawW; rw [two_hd n3]; simp only [Bool.false_eq_true, if_false, runW, if_pos hc, es]
    have ew := wordL_let (r := c :: r) rfl hc
    rw [es] at ew
    have g : goodW (c :: s) = (decide (ofL (c :: s) ∈ ownW) || decide ((c :: s).length < 7)) := by
      unfold goodW
      simp [n1, n2, n3, hc]
    rw [e, g, ew]
    unfold kindW2
    by_cases o : ofL (c :: s) ∈ ownW
    · simp [o]
      decide
    · by_cases l : (c :: s).length ≤ 6
      · have l' : (c :: s).length < 7 := by omega
        simp only [o, decide_false, Bool.false_or, l', decide_true, if_false, l, if_true, List.headD_cons, hc]
        exact ⟨fun _ => ⟨by first | trivial | rfl, by decide⟩, fun h => by cases h⟩
      · have l' : ¬ (c :: s).length < 7 := by omega
        simp only [o, decide_false, Bool.false_or, l', if_false, l]
        exact ⟨fun h => (by cases h), fun _ => by first | trivial | rfl⟩
  by_cases hf : c ∈ figs
  · obtain ⟨n2, n3⟩ := fig_not c hf
    obtain ⟨s, es⟩ := span_hd (g := figs) (t := r) hf
    have e : lawW (c :: r) = c :: s := by unfold lawW; rw [two_hd n3]; simp only [Bool.false_eq_true, if_false, runW, if_neg hc, if_pos hf, es]
    have ew := wordL_fig (r := c :: r) rfl hc hf
    rw [es] at ew
    have no : ofL (c :: s) ∉ ownW := fun h => hc (own_hd h)
    have g : goodW (c :: s) = (decide ((c :: s).length < 7) && !(decide (c = 48) && !decide (c :: s = [48]))) := by
      unfold goodW
      simp only [List.headD_cons, no, decide_false, Bool.false_or, hc, hf, decide_true, Bool.true_and, n2, Bool.and_false, Bool.or_false]
      have q1 : ¬ (c :: s = [60, 62]) := fun h => n3 (by cases h; rfl)
      have q2 : ¬ (c :: s = [60, 61]) := fun h => n3 (by cases h; rfl)
      simp only [q1, q2, decide_false, Bool.false_or]
      first | rfl | congr
    rw [e, g, ew]
    unfold kindW2
    rw [if_neg no]
    by_cases l : (c :: s).length ≤ 6 ∧ (c :: s = [48] ∨ c ≠ 48)
    · have l' : (c :: s).length < 7 := by omega
      rw [if_pos l]
      simp only [List.headD_cons, hc, if_false, hf, if_true]
      refine ⟨fun _ => ⟨by first | trivial | rfl, by decide⟩, fun h => ?_⟩
      exfalso
      simp only [Bool.and_eq_false_iff, decide_eq_false_iff_not, Bool.not_eq_false', Bool.and_eq_true, decide_eq_true_eq, Bool.not_eq_true'] at h
      rcases h with h | ⟨h, h'⟩
      · exact h l'
      · rcases l.2 with q | q
        · exact h' q
        · exact q h
    · rw [if_neg l]
      refine ⟨fun h => ?_, fun _ => rfl⟩
      exfalso
      simp only [Bool.and_eq_true, decide_eq_true_eq, Bool.not_eq_true', Bool.and_eq_false_iff, decide_eq_false_iff_not, Bool.not_eq_false'] at h
      refine l ⟨by omega, ?_⟩
      rcases h.2 with q | q
      · exact .inr q
      · exact .inl q
  · have no : ∀ s, ofL (c :: s) ∉ ownW := fun s h => hc (own_hd h)
    cases ht : twoW (c :: r) with
    | true =>
      have e : lawW (c :: r) = (c :: r).take 2 := by unfold lawW; rw [ht]; rfl
      rw [e]
      unfold twoW at ht
      rw [Bool.or_eq_true, decide_eq_true_eq, decide_eq_true_eq] at ht
      rcases ht with q | q
      · have hs : signsW.find? (fun s => decide ((c :: r).take (tl s).length = tl s)) = some ("<>" : Str) := by
          rw [List.find?_cons_of_pos (by rw [decide_eq_true_eq]; exact q)]
        rw [q, wordL_sign (r := c :: r) rfl hc hf hs]
        exact ⟨fun _ => ⟨by decide +kernel, by decide⟩, fun h => by revert h; decide +kernel⟩
      · have q0 : ¬ ((c :: r).take 2 = [60, 62]) := by rw [q]; decide
        have hs : signsW.find? (fun s => decide ((c :: r).take (tl s).length = tl s)) = some ("<=" : Str) := by
          rw [List.find?_cons_of_neg (by rw [decide_eq_true_eq]; exact q0), List.find?_cons_of_pos (by rw [decide_eq_true_eq]; exact q)]
        rw [q, wordL_sign (r := c :: r) rfl hc hf hs]
        exact ⟨fun _ => ⟨by decide +kernel, by decide⟩, fun h => by revert h; decide +kernel⟩
    | false =>
      have e : lawW (c :: r) = [c] := by unfold lawW; rw [ht]; simp only [Bool.false_eq_true, if_false, runW, hc, hf]
      rw [e]
      unfold twoW at ht
      rw [Bool.or_eq_false_iff, decide_eq_false_iff_not, decide_eq_false_iff_not] at ht
      have g : goodW [c] = decide (c ∈ oneS) := by
        unfold goodW
        simp [no, hc, hf]
      rw [g]
      have p1 : decide ((c :: r).take (tl ("<>" : Str)).length = tl ("<>" : Str)) = false := by rw [decide_eq_false_iff_not]; exact ht.1
      have p2 : decide ((c :: r).take (tl ("<=" : Str)).length = tl ("<=" : Str)) = false := by rw [decide_eq_false_iff_not]; exact ht.2
      have s0 : decide ((c :: r).take (tl ("(" : Str)).length = tl ("(" : Str)) = decide (c = 40) := by
        rw [show tl ("(" : Str) = [40] from rfl]
        simp
      have s1 : decide ((c :: r).take (tl (")" : Str)).length = tl (")" : Str)) = decide (c = 41) := by
        rw [show tl (")" : Str) = [41] from rfl]
        simp
      have s2 : decide ((c :: r).take (tl ("," : Str)).length = tl ("," : Str)) = decide (c = 44) := by
        rw [show tl ("," : Str) = [44] from rfl]
        simp
      have s3 : decide ((c :: r).take (tl ("." : Str)).length = tl ("." : Str)) = decide (c = 46) := by
        rw [show tl ("." : Str) = [46] from rfl]
        simp
      have s4 : decide ((c :: r).take (tl ("=" : Str)).length = tl ("=" : Str)) = decide (c = 61) := by
        rw [show tl ("=" : Str) = [61] from rfl]
        simp
      have s5 : decide ((c :: r).take (tl ("<" : Str)).length = tl ("<" : Str)) = decide (c = 60) := by
        rw [show tl ("<" : Str) = [60] from rfl]
        simp
      have s6 : decide ((c :: r).take (tl ("+" : Str)).length = tl ("+" : Str)) = decide (c = 43) := by
        rw [show tl ("+" : Str) = [43] from rfl]
        simp
      have s7 : decide ((c :: r).take (tl ("-" : Str)).length = tl ("-" : Str)) = decide (c = 45) := by
        rw [show tl ("-" : Str) = [45] from rfl]
        simp
      have s8 : decide ((c :: r).take (tl ("*" : Str)).length = tl ("*" : Str)) = decide (c = 42) := by
        rw [show tl ("*" : Str) = [42] from rfl]
        simp
      have s9 : decide ((c :: r).take (tl ("/" : Str)).length = tl ("/" : Str)) = decide (c = 47) := by
        rw [show tl ("/" : Str) = [47] from rfl]
        simp
      have ef : signsW.find? (fun s => decide ((c :: r).take (tl s).length = tl s)) = (if c = 40 then some ("(" : Str) else if c = 41 then some (")" : Str) else if c = 44 then some ("," : Str) else if c = 46 then some ("." : Str) else if c = 61 then some ("=" : Str) else if c = 60 then some ("<" : Str) else if c = 43 then some ("+" : Str) else if c = 45 then some ("-" : Str) else if c = 42 then some ("*" : Str) else if c = 47 then some ("/" : Str) else none) := by
        simp only [signsW, List.find?_cons, List.find?_nil, p1, p2, s0, s1, s2, s3, s4, s5, s6, s7, s8, s9]
        by_cases e0 : c = 40
        · simp only [e0, decide_true, if_true]
          try simp
        simp only [e0, decide_false, if_false]
        by_cases e1 : c = 41
        · simp only [e1, decide_true, if_true]
          try simp
        simp only [e1, decide_false, if_false]
        by_cases e2 : c = 44
        · simp only [e2, decide_true, if_true]
          try simp
        simp only [e2, decide_false, if_false]
        by_cases e3 : c = 46
        · simp only [e3, decide_true, if_true]
          try simp
        simp only [e3, decide_false, if_false]
        by_cases e4 : c = 61
        · simp only [e4, decide_true, if_true]
          try simp
        simp only [e4, decide_false, if_false]
        by_cases e5 : c = 60
        · simp only [e5, decide_true, if_true]
          try simp
        simp only [e5, decide_false, if_false]
        by_cases e6 : c = 43
        · simp only [e6, decide_true, if_true]
          try simp
        simp only [e6, decide_false, if_false]
        by_cases e7 : c = 45
        · simp only [e7, decide_true, if_true]
          try simp
        simp only [e7, decide_false, if_false]
        by_cases e8 : c = 42
        · simp only [e8, decide_true, if_true]
          try simp
        simp only [e8, decide_false, if_false]
        by_cases e9 : c = 47
        · simp only [e9, decide_true, if_true]
          try simp
        simp only [e9, decide_false, if_false]
      by_cases ho : c ∈ oneS
      · refine ⟨fun _ => ?_, fun h => by simp [ho] at h⟩
        have ho' := ho
        simp only [oneS, List.mem_cons, List.not_mem_nil, or_false] at ho'
        have kk : kindW2 [c] = "sign" := by unfold kindW2; rw [if_neg (no []), List.headD_cons, if_neg hc, if_neg hf]
        rw [kk]
        rcases ho' with rfl | rfl | rfl | rfl | rfl | rfl | rfl | rfl | rfl | rfl
        · rw [wordL_sign (r := 40 :: r) (s := "(") rfl hc hf (by rw [ef]; rfl)]
          exact ⟨rfl, by decide⟩
        · rw [wordL_sign (r := 41 :: r) (s := ")") rfl hc hf (by rw [ef]; rfl)]
          exact ⟨rfl, by decide⟩
        · rw [wordL_sign (r := 44 :: r) (s := ",") rfl hc hf (by rw [ef]; rfl)]
          exact ⟨rfl, by decide⟩
        · rw [wordL_sign (r := 46 :: r) (s := ".") rfl hc hf (by rw [ef]; rfl)]
          exact ⟨rfl, by decide⟩
        · rw [wordL_sign (r := 61 :: r) (s := "=") rfl hc hf (by rw [ef]; rfl)]
          exact ⟨rfl, by decide⟩
        · rw [wordL_sign (r := 60 :: r) (s := "<") rfl hc hf (by rw [ef]; rfl)]
          exact ⟨rfl, by decide⟩
        · rw [wordL_sign (r := 43 :: r) (s := "+") rfl hc hf (by rw [ef]; rfl)]
          exact ⟨rfl, by decide⟩
        · rw [wordL_sign (r := 45 :: r) (s := "-") rfl hc hf (by rw [ef]; rfl)]
          exact ⟨rfl, by decide⟩
        · rw [wordL_sign (r := 42 :: r) (s := "*") rfl hc hf (by rw [ef]; rfl)]
          exact ⟨rfl, by decide⟩
        · rw [wordL_sign (r := 47 :: r) (s := "/") rfl hc hf (by rw [ef]; rfl)]
          exact ⟨rfl, by decide⟩
      · refine ⟨fun h => by simp [ho] at h, fun _ => ?_⟩
        have ho' := ho
        simp only [oneS, List.mem_cons, List.not_mem_nil, or_false, not_or] at ho'
        obtain ⟨e0, e1, e2, e3, e4, e5, e6, e7, e8, e9⟩ := ho'
        rw [wordL_none (r := c :: r) rfl hc hf (by rw [ef, if_neg e0, if_neg e1, if_neg e2, if_neg e3, if_neg e4, if_neg e5, if_neg e6, if_neg e7, if_neg e8, if_neg e9])]
end W1

set_option Elab.async false
set_option linter.all false
set_option maxRecDepth 100000
namespace W1
open PySem PySem.Spec PyProof.Rows L2 TL DL
/-! ### a row and what stands ahead of its remark -/
def cutH (l : List Nat) : List Nat := l.takeWhile (fun c => decide (c ≠ 35))
theorem cutH_nil : cutH [] = [] := rfl
theorem cutH_rem {r : List Nat} : cutH (35 :: r) = [] := by simp [cutH]
theorem cutH_cons {c : Nat} {r : List Nat} (h : c ≠ 35) : cutH (c :: r) = c :: cutH r := by simp [cutH, h]
theorem cutH_len : ∀ {l : List Nat}, (cutH l).length ≤ l.length
  | [] => Nat.le_refl _
  | c :: l => by
    by_cases h : c = 35
    · subst h; rw [cutH_rem]; simp
    · rw [cutH_cons h, List.length_cons, List.length_cons]
      have := cutH_len (l := l); omega
theorem cutH_no : ∀ {l : List Nat}, 35 ∉ cutH l
  | [] => by simp [cutH]
  | c :: l => by
    by_cases h : c = 35
    · subst h; rw [cutH_rem]; simp
    · rw [cutH_cons h]
      simp only [List.mem_cons, not_or]
      exact ⟨Ne.symm h, cutH_no⟩
theorem span_cut {g : List Nat} (hg : 35 ∉ g) : ∀ {l : List Nat}, spanIn g (cutH l) = spanIn g l
  | [] => rfl
  | c :: l => by
    by_cases h : c = 35
    · subst h
      rw [cutH_rem]
      unfold spanIn
      simp [hg]
    · rw [cutH_cons h]
      unfold spanIn
      rw [List.takeWhile_cons, List.takeWhile_cons]
      split
      · have := span_cut hg (l := l)
        unfold spanIn at this
        rw [this]
      · rfl
theorem drop_cut : ∀ {n : Nat} {l : List Nat}, n ≤ (cutH l).length → (cutH l).drop n = cutH (l.drop n)
  | 0, _, _ => rfl
  | n + 1, [], h => by simp [cutH] at h
  | n + 1, c :: l, h => by
    by_cases e : c = 35
    · subst e; rw [cutH_rem] at h; simp at h
    · rw [cutH_cons e] at h ⊢
      rw [List.drop_succ_cons, List.drop_succ_cons]
      exact drop_cut (by simp only [List.length_cons] at h; omega)
theorem let35 : 35 ∉ letters ∧ 35 ∉ figs := by decide +kernel
theorem two_cut {c : Nat} {r : List Nat} : twoW (c :: cutH r) = twoW (c :: r) ∧ (twoW (c :: r) = true → (c :: cutH r).take 2 = (c :: r).take 2) := by
  cases r with
  | nil => exact ⟨rfl, fun _ => rfl⟩
  | cons d r =>
    by_cases h : d = 35
    · subst h
      rw [cutH_rem]
      unfold twoW
      simp
    · rw [cutH_cons h]
      exact ⟨rfl, fun _ => rfl⟩
theorem lawW_cut {c : Nat} {r : List Nat} (h : c ≠ 35) : lawW (c :: cutH r) = lawW (c :: r) := by
  unfold lawW
  rw [two_cut.1]
  split
  · rename_i q; exact two_cut.2 q
  · unfold runW
    have e1 : spanIn letters (c :: cutH r) = spanIn letters (c :: r) := by rw [← cutH_cons h]; exact span_cut let35.1
    have e2 : spanIn figs (c :: cutH r) = spanIn figs (c :: r) := by rw [← cutH_cons h]; exact span_cut let35.2
    rw [e1, e2]
theorem cut_scan : ∀ (n : Nat) (r : List Nat) (e : Nat) (ws : List Wd) (o : Option Nat), r.length ≤ n → ScanO (cutH r) e ws o → ScanO r e ws o
  | _, [], _, _, _, _, h => h
  | 0, _ :: _, _, _, _, h, _ => by simp at h
  | n + 1, c :: r, e, ws, o, hn, h => by
    by_cases h1 : c = 35
    · subst h1
      rw [cutH_rem] at h
      obtain ⟨rfl, rfl⟩ := scanO_nil h
      exact .rem _ _
    rw [cutH_cons h1] at h
    by_cases h2 : c = 32
    · subst h2
      exact .blank (cut_scan n r _ _ _ (by simp at hn; omega) (scanO_blank h))
    have a := law_word (r := cutH r) h2 h1
    have b := law_word (r := r) h2 h1
    rw [lawW_cut h1] at a
    rcases scanO_cons h h1 h2 with ⟨hk, rfl⟩ | ⟨k, w, ws', hk, hne, rfl, h3⟩
    · cases g : goodW (lawW (c :: r)) with
      | true => exact absurd hk (a.1 g).2
      | false =>
        have : ws = [] := by
          cases h with
          | bad => rfl
          | word _ _ x y => rw [x] at hk; exact absurd hk y
          | blank => exact absurd rfl h2
        subst this
        exact .bad h1 h2 (b.2 g)
    · cases g : goodW (lawW (c :: r)) with
      | false => have := a.2 g; rw [hk] at this; exact absurd this hne
      | true =>
        have e1 := (a.1 g).1
        have e2 := (b.1 g).1
        rw [hk] at e1
        have hb := wordL_bounds (c := c) (r := cutH r)
        rw [hk] at hb
        dsimp only at hb
        have h3' : ScanO (cutH ((c :: r).drop w.length)) (e + w.length) ws' o := by
          rw [← cutH_cons h1] at h3 hb
          rw [← drop_cut (by omega)]
          exact h3
        refine .word h1 h2 (e2.trans e1.symm) hne (cut_scan n _ _ _ _ ?_ h3')
        rw [List.length_drop]
        simp only [List.length_cons] at hn ⊢
        omega
theorem cut_from {z : Str} {i : Int} (hi : 0 ≤ i) : cutS z (some i) none = ofL ((tl z).drop i.toNat) := by
  apply ext_tl
  unfold cutS
  rw [len_tl]
  have e1 : HT.sIx (tl z).length 0 (some i) = min i.toNat (tl z).length := by
    show (if i < 0 then _ else min i.toNat (tl z).length) = _
    rw [if_neg (by omega)]
  have e2 : HT.sIx (tl z).length (tl z).length none = (tl z).length := rfl
  rw [e1, e2]
  show ((tl z).drop _).take _ = (tl z).drop i.toNat
  by_cases h : (tl z).length ≤ i.toNat
  · rw [Nat.min_eq_right h, List.drop_eq_nil_of_le (Nat.le_refl _), List.drop_eq_nil_of_le h]; simp
  · rw [Nat.min_eq_left (by omega), List.take_of_length_le (by rw [List.length_drop]; exact Nat.le_refl _)]
theorem runW_cons {c : Nat} {t : List Nat} : runW (c :: t) = if c ∈ letters then spanIn letters (c :: t) else if c ∈ figs then spanIn figs (c :: t) else [c] := rfl
theorem run_two {c : Nat} {t x1 : List Nat} (hx1 : [c] ++ (if c ∈ letters then spanIn letters t else []) = x1) {y : List Nat} (hy : c ∉ letters → y = t) : x1 ++ (if c ∈ figs then spanIn figs y else []) = runW (c :: t) := by
  rw [← hx1, runW_cons]
  by_cases hc : c ∈ letters
  · have hf : c ∉ figs := (let_not c hc).1
    rw [if_pos hc, if_neg hf, if_pos hc, List.append_nil]
    unfold spanIn
    rw [List.takeWhile_cons, if_pos (by simpa using hc)]
    rfl
  · rw [if_neg hc, if_neg hc, List.append_nil, hy hc]
    by_cases hf : c ∈ figs
    · rw [if_pos hf, if_pos hf]
      unfold spanIn
      rw [List.takeWhile_cons, if_pos (by simpa using hf)]
      rfl
    · rw [if_neg hf, if_neg hf]
      rfl
theorem run_len {c : Nat} {t : List Nat} : (runW (c :: t)).length ≤ t.length + 1 ∧ ∃ s, runW (c :: t) = c :: s := by
  rw [runW_cons]
  split
  · rename_i h
    have := span_len letters (c :: t)
    exact ⟨by simpa using this, span_hd h⟩
  · split
    · rename_i h
      have := span_len figs (c :: t)
      exact ⟨by simpa using this, span_hd h⟩
    · exact ⟨by simp, [], rfl⟩
theorem two_str {l : List Nat} : (ofL l = Str.ofString "<>" ↔ l = [60, 62]) ∧ (ofL l = Str.ofString "<=" ↔ l = [60, 61]) := by
  refine ⟨⟨fun h => ?_, fun h => by rw [h]; rfl⟩, ⟨fun h => ?_, fun h => by rw [h]; rfl⟩⟩
  · have := congrArg tl h; rw [tl_ofL] at this; exact this
  · have := congrArg tl h; rw [tl_ofL] at this; exact this
theorem law_len {c : Nat} {t : List Nat} : 1 ≤ (lawW (c :: t)).length ∧ (lawW (c :: t)).length ≤ t.length + 1 ∧ (lawW (c :: t)).head? = some c := by
  unfold lawW
  split
  · exact ⟨by cases t <;> simp, by cases t <;> simp, rfl⟩
  · obtain ⟨h1, s, h2⟩ := run_len (c := c) (t := t)
    rw [h2] at h1 ⊢
    exact ⟨by simp, h1, rfl⟩
/-- the law's two looks at a word -/
def lookA (w : List Nat) : Bool := decide (w = [32]) || ((decide (w = [60, 62]) || decide (w = [60, 61])) || ((decide (w.length = 1) && decide (w.headD 0 ∈ oneS)) || decide (ofL w ∈ ownW)))
def lookB (w : List Nat) : Bool := (decide (w.headD 0 ∈ letters) || decide (w.headD 0 ∈ figs)) && (decide (w.length < 7) && !(decide (w.headD 0 ∈ figs) && (decide (w.headD 0 = 48) && !decide (w = [48]))))
theorem good_ab {w : List Nat} (h : w ≠ [32]) : (lookA w || lookB w) = goodW w := by
  unfold lookA lookB goodW
  simp only [h, decide_false, Bool.false_or]
  generalize decide (w = [60, 62]) = a
  generalize decide (w = [60, 61]) = b
  generalize (decide (w.length = 1) && decide (w.headD 0 ∈ oneS)) = c
  generalize decide (ofL w ∈ ownW) = d
  generalize decide (w.headD 0 ∈ letters) = l
  generalize decide (w.headD 0 ∈ figs) = f
  generalize decide (w.length < 7) = g
  generalize decide (w.headD 0 = 48) = h
  generalize decide (w = [48]) = k
  revert a b c d l f g h k
  decide
theorem encAll_le : ∀ {rs : List Str} {wss : List (List Wd)} {k : Nat}, ScanRows rs wss → (∀ r ∈ rs, (tl r).length ≤ 1000) → (encAll k wss).length ≤ 1000 * rs.length
  | [], [], _, _, _ => by simp [encAll]
  | r :: rs, ws :: wss, k, h, hr => by
    have i := encAll_le (k := k + 1) h.2 fun x hx => hr x (List.mem_cons_of_mem _ hx)
    have j := scan_len h.1
    have l := hr r List.mem_cons_self
    simp only [encAll, List.length_append, List.length_map, List.length_cons]
    omega
  | [], _ :: _, _, h, _ => h.elim
  | _ :: _, [], _, h, _ => h.elim
theorem encAll_app2 : ∀ {a b : List (List Wd)} {k : Nat}, encAll k (a ++ b) = encAll k a ++ encAll (k + a.length) b
  | [], b, k => by simp [encAll]
  | w :: a, b, k => by
    simp only [List.cons_append, encAll, encAll_app2 (a := a), List.length_cons, List.append_assoc]
    rw [show k + 1 + a.length = k + (a.length + 1) by omega]
end W1

set_option Elab.async false
set_option linter.all false
set_option maxRecDepth 100000
namespace W1
open PySem PySem.Spec PyProof.Rows L2 TL DL
theorem rows_tot : ∀ rs : List Str, (∃ wss, ScanRows rs wss) ∨ ∃ i e, BadAt rs i e
  | [] => .inl ⟨[], trivial⟩
  | r :: rs => by
    obtain ⟨ws, o, h⟩ := scanO_tot _ (tl r) 0 (Nat.le_refl _)
    cases o with
    | some e => exact .inr ⟨0, e, r, ws, rfl, h, fun j hj => by omega⟩
    | none =>
      rcases rows_tot rs with ⟨wss, hs⟩ | ⟨i, e, r', ws', h1, h2, h3⟩
      · exact .inl ⟨ws :: wss, scanO_none h rfl, hs⟩
      · refine .inr ⟨i + 1, e, r', ws', h1, h2, fun j hj => ?_⟩
        cases j with
        | zero => exact ⟨r, ws, rfl, scanO_none h rfl⟩
        | succ j => exact h3 j (by omega)
theorem splitL_len : ∀ {l : List Nat}, (∀ x ∈ splitL l, x.length ≤ l.length) ∧ (splitL l).length ≤ l.length + 1
  | [] => by simp [splitL]
  | c :: r => by
    obtain ⟨h1, h2⟩ := splitL_len (l := r)
    have hne := splitL_ne (l := r)
    unfold splitL
    revert h1 h2 hne
    cases splitL r with
    | nil => intro _ _ h; exact absurd rfl h
    | cons y ys =>
      intro h1 h2 _
      by_cases hc : c = 10
      · rw [if_pos hc]
        refine ⟨fun x hx => ?_, by simp only [List.length_cons] at h2 ⊢; omega⟩
        rcases List.mem_cons.mp hx with rfl | hx
        · simp
        · have := h1 x hx; simp only [List.length_cons]; omega
      · rw [if_neg hc]
        refine ⟨fun x hx => ?_, by simp only [List.length_cons] at h2 ⊢; omega⟩
        rcases List.mem_cons.mp hx with rfl | hx
        · have := h1 y List.mem_cons_self; simp only [List.length_cons]; omega
        · have := h1 x (List.mem_cons_of_mem _ hx); simp only [List.length_cons]; omega
theorem split_nl (z : Str) : (∀ r ∈ Txt.split z (Str.ofString "\n"), (tl r).length ≤ (tl z).length) ∧ (Txt.split z (Str.ofString "\n")).length ≤ (tl z).length + 1 := by
  have em : ((splitL (tl z)).map ofL).map tl = splitL (tl z) := by
    rw [List.map_map]
    conv => rhs; rw [← List.map_id (splitL (tl z))]
    exact List.map_congr_left fun x _ => tl_ofL x
  have hz : Txt.join "\n" ((splitL (tl z)).map ofL) = z := by
    rw [str_ext, TL.join_eq, TL.tl_join, em]
    exact splitL_join
  have := split_join (y := "\n") (s := 10) (S := []) rfl (by decide +kernel) (parts := (splitL (tl z)).map ofL) (by simpa using splitL_ne) (fun p hp => by
    obtain ⟨x, hx, rfl⟩ := List.mem_map.mp hp
    rw [tl_ofL]
    exact splitL_no x hx)
  rw [hz] at this
  have this : Txt.split z (Str.ofString "\n") = (splitL (tl z)).map ofL := this
  rw [this]
  refine ⟨fun r hr => ?_, by rw [List.length_map]; exact splitL_len.2⟩
  obtain ⟨x, hx, rfl⟩ := List.mem_map.mp hr
  rw [tl_ofL]
  exact splitL_len.1 x hx
/-- what the law draws from -/
def piecesK : List Str := ["a", "if", "0", "7", "00", "abcdefg", "abcdef", "1234567", "123456", " ", "\n", "#", "<", ">", "=", "_", "A", ";", "!", "~", "(", "mod", "out", "/", "09", " ", "\n", "."]
theorem pieces_len : ∀ s ∈ piecesK, (tl s).length ≤ 7 := by decide +kernel
theorem pure_all {wss : List (List Wd)} {k : Nat} : (∀ v ∈ encAll k wss, Pure 2 v) := by
  induction wss generalizing k with
  | nil => intro v hv; simp [encAll] at hv
  | cons ws wss ih =>
    intro v hv
    simp only [encAll] at hv
    rcases List.mem_append.mp hv with hv | hv
    · obtain ⟨w, _, rfl⟩ := List.mem_map.mp hv
      refine .tup (n := 1) (fun x hx => ?_) (by simp)
      simp only [List.mem_cons, List.not_mem_nil, or_false] at hx
      rcases hx with rfl | rfl | rfl
      · exact .str _
      · exact .str _
      · refine .tup (n := 0) (fun y hy => ?_) (by simp)
        simp only [List.mem_cons, List.not_mem_nil, or_false] at hy
        rcases hy with rfl | rfl
        · exact .int _
        · exact .int _
    · exact ih v hv
theorem scanRows_det : ∀ {rs : List Str} {wss wss' : List (List Wd)}, ScanRows rs wss → ScanRows rs wss' → wss = wss'
  | [], [], [], _, _ => rfl
  | r :: rs, ws :: wss, ws' :: wss', h, g => by
    rw [(scanO_det (scan_O h.1) (scan_O g.1)).1, scanRows_det h.2 g.2]
  | [], _ :: _, _, h, _ => h.elim
  | [], [], _ :: _, _, g => g.elim
  | _ :: _, [], _, h, _ => h.elim
  | _ :: _, _ :: _, [], _, g => g.elim
end W1

set_option Elab.async false
set_option linter.all false
set_option maxRecDepth 100000
set_option maxHeartbeats 4000000
namespace W1
open PySem PySem.Spec PyProof.Rows L2 TL DL
theorem lit0 : (tl (Str.ofString "wholetongue.errors")).length = 18 := rfl
theorem lit1 : (tl (Str.ofString "wholetongue.words")).length = 17 := rfl
theorem lit2 : (tl (Str.ofString "abcdefghijklmnopqrstuvwxyz")).length = 26 := rfl
theorem lit3 : (tl (Str.ofString "0123456789")).length = 10 := rfl
theorem lit4 : (tl (Str.ofString "#")).length = 1 := rfl
theorem lit5 : (tl (Str.ofString "law_wholetongue_k02_no_words")).length = 28 := rfl
theorem lit6 : (tl (Str.ofString "<>")).length = 2 := rfl
theorem lit7 : (tl (Str.ofString "<=")).length = 2 := rfl
theorem lit8 : (tl (Str.ofString "(")).length = 1 := rfl
theorem lit9 : (tl (Str.ofString ")")).length = 1 := rfl
theorem lit10 : (tl (Str.ofString ",")).length = 1 := rfl
theorem lit11 : (tl (Str.ofString ".")).length = 1 := rfl
theorem lit12 : (tl (Str.ofString "=")).length = 1 := rfl
theorem lit13 : (tl (Str.ofString "<")).length = 1 := rfl
theorem lit14 : (tl (Str.ofString "+")).length = 1 := rfl
theorem lit15 : (tl (Str.ofString "-")).length = 1 := rfl
theorem lit16 : (tl (Str.ofString "*")).length = 1 := rfl
theorem lit17 : (tl (Str.ofString "/")).length = 1 := rfl
theorem lit18 : (tl (Str.ofString "use")).length = 3 := rfl
theorem lit19 : (tl (Str.ofString "const")).length = 5 := rfl
theorem lit20 : (tl (Str.ofString "keep")).length = 4 := rfl
theorem lit21 : (tl (Str.ofString "out")).length = 3 := rfl
theorem lit22 : (tl (Str.ofString "def")).length = 3 := rfl
theorem lit23 : (tl (Str.ofString "num")).length = 3 := rfl
theorem lit24 : (tl (Str.ofString "yes")).length = 3 := rfl
theorem lit25 : (tl (Str.ofString "no")).length = 2 := rfl
theorem lit26 : (tl (Str.ofString "let")).length = 3 := rfl
theorem lit27 : (tl (Str.ofString "if")).length = 2 := rfl
theorem lit28 : (tl (Str.ofString "else")).length = 4 := rfl
theorem lit29 : (tl (Str.ofString "while")).length = 5 := rfl
theorem lit30 : (tl (Str.ofString "end")).length = 3 := rfl
theorem lit31 : (tl (Str.ofString "give")).length = 4 := rfl
theorem lit32 : (tl (Str.ofString "say")).length = 3 := rfl
theorem lit33 : (tl (Str.ofString "do")).length = 2 := rfl
theorem lit34 : (tl (Str.ofString "or")).length = 2 := rfl
theorem lit35 : (tl (Str.ofString "and")).length = 3 := rfl
theorem lit36 : (tl (Str.ofString "not")).length = 3 := rfl
theorem lit37 : (tl (Str.ofString "mod")).length = 3 := rfl
theorem lit38 : (tl (Str.ofString "")).length = 0 := rfl
theorem lit39 : (tl (Str.ofString "a text that can't be")).length = 20 := rfl
theorem lit40 : (tl (Str.ofString " ")).length = 1 := rfl
theorem lit41 : (tl (Str.ofString "own")).length = 3 := rfl
theorem lit42 : (tl (Str.ofString "name")).length = 4 := rfl
theorem lit43 : (tl (Str.ofString "sign")).length = 4 := rfl
theorem lit44 : (tl (Str.ofString "refused")).length = 7 := rfl
theorem lit45 : (tl (Str.ofString "a")).length = 1 := rfl
theorem lit46 : (tl (Str.ofString "0")).length = 1 := rfl
theorem lit47 : (tl (Str.ofString "7")).length = 1 := rfl
theorem lit48 : (tl (Str.ofString "00")).length = 2 := rfl
theorem lit49 : (tl (Str.ofString "abcdefg")).length = 7 := rfl
theorem lit50 : (tl (Str.ofString "abcdef")).length = 6 := rfl
theorem lit51 : (tl (Str.ofString "1234567")).length = 7 := rfl
theorem lit52 : (tl (Str.ofString "123456")).length = 6 := rfl
theorem lit53 : (tl (Str.ofString "words")).length = 5 := rfl
theorem lit54 : (tl (Str.ofString "word")).length = 4 := rfl
theorem lit55 : (tl (Str.ofString "other")).length = 5 := rfl
theorem lit56 : (tl (Str.ofString ">")).length = 1 := rfl
theorem lit57 : (tl (Str.ofString "_")).length = 1 := rfl
theorem lit58 : (tl (Str.ofString "A")).length = 1 := rfl
theorem lit59 : (tl (Str.ofString ";")).length = 1 := rfl
theorem lit60 : (tl (Str.ofString "!")).length = 1 := rfl
theorem lit61 : (tl (Str.ofString "~")).length = 1 := rfl
theorem lit62 : (tl (Str.ofString "09")).length = 2 := rfl
theorem lit63 : (tl (Str.ofString "(),.=<+-*/")).length = 10 := rfl
theorem lit64 : (tl (Str.ofString "house")).length = 5 := rfl
theorem lit65 : (tl (Str.ofString "rows")).length = 4 := rfl
theorem lit66 : (tl (Str.ofString "file")).length = 4 := rfl
theorem lit67 : (tl (Str.ofString "made")).length = 4 := rfl
local macro_rules | `(tactic| walk_at "e1") => `(tactic| simp only [DL.dFz, ↓DL.onL_e1, DL.dTold, DL.dMethX, DL.dMakeX, DL.dForK, DL.dLcV, ↓DL.dMax2_e1, ↓DL.dMaxL_e1, DL.keyV_str, DL.cutD_tail, eq_self, Int.reduceEq, List.nil_append, List.cons_append, DL.ofs_eq, String.reduceEq, DL.inD_cons, DL.inD_nil, Bool.or_false, Bool.or_true, Bool.false_or, Bool.true_or, decide_true, decide_false, not_true_eq_false, not_false_eq_true, DL.dPar, ↓DL.kPar_e1, DL.dPar3, ↓DL.kPar3_e1, DL.dGet1, DL.dGet2, DL.dKGet2, DL.dAsg, DL.dVar, DL.dgName, DL.dgLst, DL.dgSub, List.length_cons, List.length_nil, List.set_cons_zero, List.set_cons_succ, DL.dAnd, DL.dOr, DL.dNot, DL.dTest, DL.dTrue, DL.dOp, DL.dCB, DL.dACons, DL.dANil, DL.dInQ, DL.dIxQ, DL.dAug, DL.dC, DL.dRet, DL.dRetF, DL.dRetN, DL.dSl, DL.dPart, DL.dNoPart, DL.dIf, DL.dIfS, DL.dTup, DL.dLstF, DL.dLstO, DL.dDrop, DL.dNever, DL.dNext, DL.dBreak, DL.dCont, DL.dFor, DL.dILst, DL.dITup, DL.dIStr, DL.dIRng1, DL.dIRng2, DL.dIEnum, DL.dIZip, DL.dBM, DL.dBM0, DL.dCall, DL.dFld, DL.dSFld, DL.dSFldI, DL.dMeth, DL.dMake, DL.dRaise, DL.dXf, DL.dEqL, ↓DL.dStrip_e1, ↓DL.onX_e1, DL.dCallX, ↓DL.onI_e1, DL.dAddO, DL.dMulO, ↓DL.kMulO_e1, DL.dLcO, DL.dAndV, DL.dOrV, DL.dNotV, DL.dNeg, DL.dDix, DL.dDin, DL.dDisp, DL.dDispF, DL.dDNew, DL.dLc, DL.dLc2, DL.bind1, DL.dYes, DL.dFrz, List.map_cons, List.map_nil, List.getElem?_cons_succ, List.getElem?_cons_zero, DL.atI_0, DL.atI_1, DL.atI_2, DL.atI_3, DL.atI_4, DL.atI_5, DL.atI_6, DL.atI_7, DL.ixN_0, DL.ixN_1, DL.ixN_2, DL.ixN_3, DL.oset_same, DL.oset_oset, DL.tl_one, DL.tl_ofL, TL.len_tl, DL.atI_nat_, Bool.false_eq_true, Bool.true_eq_false, Bool.not_false, Bool.not_true, if_true, if_false, decide_eq_true_eq, Bool.not_eq_true', Bool.not_eq_true, decide_eq_false_iff_not, Option.isSome_some, Option.isSome_none, List.all_cons, List.all_nil, Bool.and_self, Bool.true_and, Bool.and_true, ↓reduceIte, and_true, true_and, Nat.zero_add, Nat.reduceAdd, Nat.reduceLeDiff, ↓DL.onSome_e1, ↓DL.onL_e1, ↓DL.lstQ_e1, ↓DL.lstQ_e2, ↓DL.seqQ_e1, ↓DL.seqQ_e2, ↓DL.seqQ_e3, ↓DL.seqQ_e4, ↓DL.seqQ_e5, ↓DL.sqlQ_e1, ↓DL.sqlQ_e2, ↓DL.sqlQ_e3, ↓DL.onK_e1, ↓DL.onT_e1, ↓DL.dkQ_e1, ↓DL.dkQ_e2, ↓DL.dtQ_e1, ↓DL.dtQ_e2, ↓DL.findQ_e1, ↓DL.findQ_e2, ↓DL.findQ_e3, ↓DL.dAdd_e1, ↓DL.dAdd_e2, ↓DL.dAdd_e3, ↓DL.dAdd_e4, ↓DL.dAdd_e5, ↓DL.dAdd_e6, ↓DL.dAdd_e7, ↓DL.dI2_e1, ↓DL.dSub_e1, ↓DL.dCmpI_e1, ↓DL.dEq_e1, ↓DL.dEq_e2, ↓DL.dEq_e3, ↓DL.dEq_e4, ↓DL.dEq_e5, ↓DL.dEq_e6, ↓DL.dEq_e7, ↓DL.dEq_e8, ↓DL.dEq_e9, ↓DL.dEq_e10, ↓DL.dEq_e11, ↓DL.dEq_e12, ↓DL.dEq_e13, ↓DL.dEq_e14, ↓DL.dEq_e15, ↓DL.dIsN_e1, DL.isNon_e1, ↓DL.dInS_e1, ↓DL.dIn_e1, ↓DL.dIn_e2, ↓DL.dIn_e3, ↓DL.dIn_e4, ↓DL.dIn_e5, ↓DL.dIn_e6, ↓DL.dInK_e1, ↓DL.dIx_e1, ↓DL.dIx_e2, ↓DL.dIx_e3, ↓DL.dIx_e4, ↓DL.dIx_e5, ↓DL.dIx_e6, ↓DL.kBl_e1, ↓DL.kInt_e1, ↓DL.kTru_e1, ↓DL.kTru_e2, ↓DL.kTru_e3, ↓DL.kTru_e4, ↓DL.kTru_e5, ↓DL.kTru_e6, ↓DL.kTru_e7, ↓DL.kTru_e8, ↓DL.kTru_e9, ↓DL.kRef_e1, ↓DL.kLst_e1, ↓DL.kLst_e2, ↓DL.kTup_e1, ↓DL.kTup_e2, ↓DL.kStr_e1, ↓DL.kRng1_e1, ↓DL.kRng2_e1, ↓DL.kEnum_e1, ↓DL.kEnum_e2, ↓DL.kZip_e1, ↓DL.frzC_e1, ↓DL.frzC_e2, ↓DL.frzC_e3, ↓DL.dSlR_e1, ↓DL.dSlR_e2, ↓DL.dSlR_e3, ↓DL.dSlR_e4, ↓DL.dSlR_e5, ↓DL.dLen_e1, ↓DL.dLen_e2, ↓DL.dLen_e3, ↓DL.dLen_e4, ↓DL.dLen_e5, ↓DL.dLen_e6, ↓DL.dInt_e1, ↓DL.dInt_e2, ↓DL.dInt_e3, ↓DL.dStrI_e1, ↓DL.dIsi_e1, DL.tyName_e1, DL.tyName_e2, DL.tyName_e3, DL.tyName_e4, DL.tyName_e5, DL.tyName_e6, DL.tyName_e7, DL.tyName_e8, DL.tyName_e9, DL.tyName_e10, ↓DL.dApp_e1, ↓DL.dJoin_e1, ↓DL.dSplit_e1, ↓DL.dgNil_e1, ↓DL.dgCons_e1, ↓DL.dgTup_e1, ↓DL.dSetL_e1, ↓DL.dSetD_e1, ↓DL.dSetD_e2, ↓DL.dSetD_e3, ↓DL.dIAdd_e1, ↓DL.dIAdd_e2, ↓DL.dISub_e1, ↓DL.apart_e1, ↓DL.dUpd_e1, ↓DL.dMulS_e1, ↓DL.dInL_e1, ↓DL.endLc_e1, ↓DL.endLc_e2, DL.bindN_e1, DL.setAll_e1, DL.setAll_e2, DL.mTy_e1, DL.mTy_e2, DL.mTy_e3, DL.mTy_e4, DL.strsOf_e1, DL.strsOf_e2, DL.keyD_e1, DL.keyD_e2, DL.keysD_e1, DL.keysD_e2, ↓DL.forW_e1, ↓DL.forW_e2, ↓DL.lcW_e1, ↓DL.lcW_e2, ↓DL.lcG_e1, ↓DL.lcG_e2, ↓DL.lc2W_e1, ↓DL.lc2W_e2, ↓DL.dPairs_e1, ↓DL.dPairs_e2, DL.kvsOf_e1, DL.kvsOf_e2, DL.slot_e1, DL.slot_e2, DL.dwipe_e1, DL.dwipe_e2, DL.enumD_e1, DL.enumD_e2, DL.zipD_e1, DL.dstart_e1, DL.dstart_e2, DL.dstart_e3, DL.flatD_e1, DL.flatD_e2, DL.flatD_e3, DL.flatD_e4, DL.eqF_e1, DL.eqF_e2, DL.eqF_e3, DL.eqF_e4, DL.eqF_e5, DL.eqF_e6, ↓DL.dTupOf_e1, ↓DL.dTupOf_e2, ↓DL.dTupOf_e3, ↓DL.dListOf_e1, ↓DL.dMin2_e1, ↓DL.dExt_e1, ↓DL.dMulL_e1, ↓DL.dIsD_e1, ↓DL.dIsD_e2, ↓DL.dIsD_e3, ↓DL.dSortD_e1, ↓DL.kStr1_e1, DL.klook_e1, ↓DL.dVar_n0, ↓DL.dgName_n0, ↓DL.obind_n0, ↓DL.oslot_n0, ↓DL.dVar_n1, ↓DL.dgName_n1, ↓DL.obind_n1, ↓DL.oslot_n1, ↓DL.dVar_n2, ↓DL.dgName_n2, ↓DL.obind_n2, ↓DL.oslot_n2, ↓DL.dVar_n3, ↓DL.dgName_n3, ↓DL.obind_n3, ↓DL.oslot_n3, ↓DL.dVar_n4, ↓DL.dgName_n4, ↓DL.obind_n4, ↓DL.oslot_n4, ↓DL.dVar_n5, ↓DL.dgName_n5, ↓DL.obind_n5, ↓DL.oslot_n5, ↓DL.dVar_n6, ↓DL.dgName_n6, ↓DL.obind_n6, ↓DL.oslot_n6, ↓DL.dVar_n7, ↓DL.dgName_n7, ↓DL.obind_n7, ↓DL.oslot_n7, ↓DL.dVar_n8, ↓DL.dgName_n8, ↓DL.obind_n8, ↓DL.oslot_n8, ↓DL.dVar_n9, ↓DL.dgName_n9, ↓DL.obind_n9, ↓DL.oslot_n9, ↓DL.dVar_n10, ↓DL.dgName_n10, ↓DL.obind_n10, ↓DL.oslot_n10, ↓DL.dVar_n11, ↓DL.dgName_n11, ↓DL.obind_n11, ↓DL.oslot_n11, ↓DL.dVar_n12, ↓DL.dgName_n12, ↓DL.obind_n12, ↓DL.oslot_n12, ↓DL.dVar_n13, ↓DL.dgName_n13, ↓DL.obind_n13, ↓DL.oslot_n13, ↓DL.dVar_n14, ↓DL.dgName_n14, ↓DL.obind_n14, ↓DL.oslot_n14, ↓DL.dVar_n15, ↓DL.dgName_n15, ↓DL.obind_n15, ↓DL.oslot_n15, ↓DL.dVar_n16, ↓DL.dgName_n16, ↓DL.obind_n16, ↓DL.oslot_n16, ↓DL.dVar_n17, ↓DL.dgName_n17, ↓DL.obind_n17, ↓DL.oslot_n17, ↓DL.dVar_n18, ↓DL.dgName_n18, ↓DL.obind_n18, ↓DL.oslot_n18, ↓DL.dVar_n19, ↓DL.dgName_n19, ↓DL.obind_n19, ↓DL.oslot_n19, ↓DL.dVar_n20, ↓DL.dgName_n20, ↓DL.obind_n20, ↓DL.oslot_n20, ↓DL.dVar_n21, ↓DL.dgName_n21, ↓DL.obind_n21, ↓DL.oslot_n21, ↓DL.dVar_n22, ↓DL.dgName_n22, ↓DL.obind_n22, ↓DL.oslot_n22, ↓DL.dVar_n23, ↓DL.dgName_n23, ↓DL.obind_n23, ↓DL.oslot_n23, ↓DL.dVar_n24, ↓DL.dgName_n24, ↓DL.obind_n24, ↓DL.oslot_n24, ↓DL.dVar_n25, ↓DL.dgName_n25, ↓DL.obind_n25, ↓DL.oslot_n25, ↓DL.dVar_n26, ↓DL.dgName_n26, ↓DL.obind_n26, ↓DL.oslot_n26, ↓DL.dVar_n27, ↓DL.dgName_n27, ↓DL.obind_n27, ↓DL.oslot_n27, ↓DL.dVar_n28, ↓DL.dgName_n28, ↓DL.obind_n28, ↓DL.oslot_n28, ↓DL.dVar_n29, ↓DL.dgName_n29, ↓DL.obind_n29, ↓DL.oslot_n29, ↓DL.isiM_int, ↓DL.subTy_NoneType_int, ↓DL.subTy_bool_int, ↓DL.subTy_int_int, ↓DL.subTy_str_int, ↓DL.subTy_tuple_int, ↓DL.subTy_list_int, ↓DL.subTy_dict_int, ↓DL.isiM_str, ↓DL.subTy_NoneType_str, ↓DL.subTy_bool_str, ↓DL.subTy_int_str, ↓DL.subTy_str_str, ↓DL.subTy_tuple_str, ↓DL.subTy_list_str, ↓DL.subTy_dict_str, ↓DL.isiM_bool, ↓DL.subTy_NoneType_bool, ↓DL.subTy_bool_bool, ↓DL.subTy_int_bool, ↓DL.subTy_str_bool, ↓DL.subTy_tuple_bool, ↓DL.subTy_list_bool, ↓DL.subTy_dict_bool, ↓DL.isiM_list, ↓DL.subTy_NoneType_list, ↓DL.subTy_bool_list, ↓DL.subTy_int_list, ↓DL.subTy_str_list, ↓DL.subTy_tuple_list, ↓DL.subTy_list_list, ↓DL.subTy_dict_list, ↓DL.isiM_tuple, ↓DL.subTy_NoneType_tuple, ↓DL.subTy_bool_tuple, ↓DL.subTy_int_tuple, ↓DL.subTy_str_tuple, ↓DL.subTy_tuple_tuple, ↓DL.subTy_list_tuple, ↓DL.subTy_dict_tuple, ↓DL.isiM_dict, ↓DL.subTy_NoneType_dict, ↓DL.subTy_bool_dict, ↓DL.subTy_int_dict, ↓DL.subTy_str_dict, ↓DL.subTy_tuple_dict, ↓DL.subTy_list_dict, ↓DL.subTy_dict_dict, ↓DL.isNon_tup, ↓DL.isNon_lst, ↓DL.isNon_stup, ↓DL.isNon_slst, ↓DL.isNon_str, ↓DL.isNon_int, ↓DL.isNon_bl, ↓DL.isNon_ref, ↓DL.isNon_dK, ↓DL.isNon_dT])
local macro_rules | `(tactic| wp_walk using $ts,*) => `(tactic| ((try simp only [DL.dFz, ↓DL.onL_e1, DL.dTold, DL.dMethX, DL.dMakeX, DL.dForK, DL.dLcV, ↓DL.dMax2_e1, ↓DL.dMaxL_e1, DL.keyV_str, DL.cutD_tail, eq_self, Int.reduceEq, List.nil_append, List.cons_append, DL.ofs_eq, String.reduceEq, DL.inD_cons, DL.inD_nil, Bool.or_false, Bool.or_true, Bool.false_or, Bool.true_or, decide_true, decide_false, not_true_eq_false, not_false_eq_true, DL.dPar, ↓DL.kPar_e1, DL.dPar3, ↓DL.kPar3_e1, DL.dGet1, DL.dGet2, DL.dKGet2, DL.dAsg, DL.dVar, DL.dgName, DL.dgLst, DL.dgSub, List.length_cons, List.length_nil, List.set_cons_zero, List.set_cons_succ, DL.dAnd, DL.dOr, DL.dNot, DL.dTest, DL.dTrue, DL.dOp, DL.dCB, DL.dACons, DL.dANil, DL.dInQ, DL.dIxQ, DL.dAug, DL.dC, DL.dRet, DL.dRetF, DL.dRetN, DL.dSl, DL.dPart, DL.dNoPart, DL.dIf, DL.dIfS, DL.dTup, DL.dLstF, DL.dLstO, DL.dDrop, DL.dNever, DL.dNext, DL.dBreak, DL.dCont, DL.dFor, DL.dILst, DL.dITup, DL.dIStr, DL.dIRng1, DL.dIRng2, DL.dIEnum, DL.dIZip, DL.dBM, DL.dBM0, DL.dCall, DL.dFld, DL.dSFld, DL.dSFldI, DL.dMeth, DL.dMake, DL.dRaise, DL.dXf, DL.dEqL, ↓DL.dStrip_e1, ↓DL.onX_e1, DL.dCallX, ↓DL.onI_e1, DL.dAddO, DL.dMulO, ↓DL.kMulO_e1, DL.dLcO, DL.dAndV, DL.dOrV, DL.dNotV, DL.dNeg, DL.dDix, DL.dDin, DL.dDisp, DL.dDispF, DL.dDNew, DL.dLc, DL.dLc2, DL.bind1, DL.dYes, DL.dFrz, List.map_cons, List.map_nil, List.getElem?_cons_succ, List.getElem?_cons_zero, DL.atI_0, DL.atI_1, DL.atI_2, DL.atI_3, DL.atI_4, DL.atI_5, DL.atI_6, DL.atI_7, DL.ixN_0, DL.ixN_1, DL.ixN_2, DL.ixN_3, DL.oset_same, DL.oset_oset, DL.tl_one, DL.tl_ofL, TL.len_tl, DL.atI_nat_, Bool.false_eq_true, Bool.true_eq_false, Bool.not_false, Bool.not_true, if_true, if_false, decide_eq_true_eq, Bool.not_eq_true', Bool.not_eq_true, decide_eq_false_iff_not, Option.isSome_some, Option.isSome_none, List.all_cons, List.all_nil, Bool.and_self, Bool.true_and, Bool.and_true, ↓reduceIte, and_true, true_and, Nat.zero_add, Nat.reduceAdd, Nat.reduceLeDiff, ↓DL.onSome_e1, ↓DL.onL_e1, ↓DL.lstQ_e1, ↓DL.lstQ_e2, ↓DL.seqQ_e1, ↓DL.seqQ_e2, ↓DL.seqQ_e3, ↓DL.seqQ_e4, ↓DL.seqQ_e5, ↓DL.sqlQ_e1, ↓DL.sqlQ_e2, ↓DL.sqlQ_e3, ↓DL.onK_e1, ↓DL.onT_e1, ↓DL.dkQ_e1, ↓DL.dkQ_e2, ↓DL.dtQ_e1, ↓DL.dtQ_e2, ↓DL.findQ_e1, ↓DL.findQ_e2, ↓DL.findQ_e3, ↓DL.dAdd_e1, ↓DL.dAdd_e2, ↓DL.dAdd_e3, ↓DL.dAdd_e4, ↓DL.dAdd_e5, ↓DL.dAdd_e6, ↓DL.dAdd_e7, ↓DL.dI2_e1, ↓DL.dSub_e1, ↓DL.dCmpI_e1, ↓DL.dEq_e1, ↓DL.dEq_e2, ↓DL.dEq_e3, ↓DL.dEq_e4, ↓DL.dEq_e5, ↓DL.dEq_e6, ↓DL.dEq_e7, ↓DL.dEq_e8, ↓DL.dEq_e9, ↓DL.dEq_e10, ↓DL.dEq_e11, ↓DL.dEq_e12, ↓DL.dEq_e13, ↓DL.dEq_e14, ↓DL.dEq_e15, ↓DL.dIsN_e1, DL.isNon_e1, ↓DL.dInS_e1, ↓DL.dIn_e1, ↓DL.dIn_e2, ↓DL.dIn_e3, ↓DL.dIn_e4, ↓DL.dIn_e5, ↓DL.dIn_e6, ↓DL.dInK_e1, ↓DL.dIx_e1, ↓DL.dIx_e2, ↓DL.dIx_e3, ↓DL.dIx_e4, ↓DL.dIx_e5, ↓DL.dIx_e6, ↓DL.kBl_e1, ↓DL.kInt_e1, ↓DL.kTru_e1, ↓DL.kTru_e2, ↓DL.kTru_e3, ↓DL.kTru_e4, ↓DL.kTru_e5, ↓DL.kTru_e6, ↓DL.kTru_e7, ↓DL.kTru_e8, ↓DL.kTru_e9, ↓DL.kRef_e1, ↓DL.kLst_e1, ↓DL.kLst_e2, ↓DL.kTup_e1, ↓DL.kTup_e2, ↓DL.kStr_e1, ↓DL.kRng1_e1, ↓DL.kRng2_e1, ↓DL.kEnum_e1, ↓DL.kEnum_e2, ↓DL.kZip_e1, ↓DL.frzC_e1, ↓DL.frzC_e2, ↓DL.frzC_e3, ↓DL.dSlR_e1, ↓DL.dSlR_e2, ↓DL.dSlR_e3, ↓DL.dSlR_e4, ↓DL.dSlR_e5, ↓DL.dLen_e1, ↓DL.dLen_e2, ↓DL.dLen_e3, ↓DL.dLen_e4, ↓DL.dLen_e5, ↓DL.dLen_e6, ↓DL.dInt_e1, ↓DL.dInt_e2, ↓DL.dInt_e3, ↓DL.dStrI_e1, ↓DL.dIsi_e1, DL.tyName_e1, DL.tyName_e2, DL.tyName_e3, DL.tyName_e4, DL.tyName_e5, DL.tyName_e6, DL.tyName_e7, DL.tyName_e8, DL.tyName_e9, DL.tyName_e10, ↓DL.dApp_e1, ↓DL.dJoin_e1, ↓DL.dSplit_e1, ↓DL.dgNil_e1, ↓DL.dgCons_e1, ↓DL.dgTup_e1, ↓DL.dSetL_e1, ↓DL.dSetD_e1, ↓DL.dSetD_e2, ↓DL.dSetD_e3, ↓DL.dIAdd_e1, ↓DL.dIAdd_e2, ↓DL.dISub_e1, ↓DL.apart_e1, ↓DL.dUpd_e1, ↓DL.dMulS_e1, ↓DL.dInL_e1, ↓DL.endLc_e1, ↓DL.endLc_e2, DL.bindN_e1, DL.setAll_e1, DL.setAll_e2, DL.mTy_e1, DL.mTy_e2, DL.mTy_e3, DL.mTy_e4, DL.strsOf_e1, DL.strsOf_e2, DL.keyD_e1, DL.keyD_e2, DL.keysD_e1, DL.keysD_e2, ↓DL.forW_e1, ↓DL.forW_e2, ↓DL.lcW_e1, ↓DL.lcW_e2, ↓DL.lcG_e1, ↓DL.lcG_e2, ↓DL.lc2W_e1, ↓DL.lc2W_e2, ↓DL.dPairs_e1, ↓DL.dPairs_e2, DL.kvsOf_e1, DL.kvsOf_e2, DL.slot_e1, DL.slot_e2, DL.dwipe_e1, DL.dwipe_e2, DL.enumD_e1, DL.enumD_e2, DL.zipD_e1, DL.dstart_e1, DL.dstart_e2, DL.dstart_e3, DL.flatD_e1, DL.flatD_e2, DL.flatD_e3, DL.flatD_e4, DL.eqF_e1, DL.eqF_e2, DL.eqF_e3, DL.eqF_e4, DL.eqF_e5, DL.eqF_e6, ↓DL.dTupOf_e1, ↓DL.dTupOf_e2, ↓DL.dTupOf_e3, ↓DL.dListOf_e1, ↓DL.dMin2_e1, ↓DL.dExt_e1, ↓DL.dMulL_e1, ↓DL.dIsD_e1, ↓DL.dIsD_e2, ↓DL.dIsD_e3, ↓DL.dSortD_e1, ↓DL.kStr1_e1, DL.klook_e1, ↓DL.dVar_n0, ↓DL.dgName_n0, ↓DL.obind_n0, ↓DL.oslot_n0, ↓DL.dVar_n1, ↓DL.dgName_n1, ↓DL.obind_n1, ↓DL.oslot_n1, ↓DL.dVar_n2, ↓DL.dgName_n2, ↓DL.obind_n2, ↓DL.oslot_n2, ↓DL.dVar_n3, ↓DL.dgName_n3, ↓DL.obind_n3, ↓DL.oslot_n3, ↓DL.dVar_n4, ↓DL.dgName_n4, ↓DL.obind_n4, ↓DL.oslot_n4, ↓DL.dVar_n5, ↓DL.dgName_n5, ↓DL.obind_n5, ↓DL.oslot_n5, ↓DL.dVar_n6, ↓DL.dgName_n6, ↓DL.obind_n6, ↓DL.oslot_n6, ↓DL.dVar_n7, ↓DL.dgName_n7, ↓DL.obind_n7, ↓DL.oslot_n7, ↓DL.dVar_n8, ↓DL.dgName_n8, ↓DL.obind_n8, ↓DL.oslot_n8, ↓DL.dVar_n9, ↓DL.dgName_n9, ↓DL.obind_n9, ↓DL.oslot_n9, ↓DL.dVar_n10, ↓DL.dgName_n10, ↓DL.obind_n10, ↓DL.oslot_n10, ↓DL.dVar_n11, ↓DL.dgName_n11, ↓DL.obind_n11, ↓DL.oslot_n11, ↓DL.dVar_n12, ↓DL.dgName_n12, ↓DL.obind_n12, ↓DL.oslot_n12, ↓DL.dVar_n13, ↓DL.dgName_n13, ↓DL.obind_n13, ↓DL.oslot_n13, ↓DL.dVar_n14, ↓DL.dgName_n14, ↓DL.obind_n14, ↓DL.oslot_n14, ↓DL.dVar_n15, ↓DL.dgName_n15, ↓DL.obind_n15, ↓DL.oslot_n15, ↓DL.dVar_n16, ↓DL.dgName_n16, ↓DL.obind_n16, ↓DL.oslot_n16, ↓DL.dVar_n17, ↓DL.dgName_n17, ↓DL.obind_n17, ↓DL.oslot_n17, ↓DL.dVar_n18, ↓DL.dgName_n18, ↓DL.obind_n18, ↓DL.oslot_n18, ↓DL.dVar_n19, ↓DL.dgName_n19, ↓DL.obind_n19, ↓DL.oslot_n19, ↓DL.dVar_n20, ↓DL.dgName_n20, ↓DL.obind_n20, ↓DL.oslot_n20, ↓DL.dVar_n21, ↓DL.dgName_n21, ↓DL.obind_n21, ↓DL.oslot_n21, ↓DL.dVar_n22, ↓DL.dgName_n22, ↓DL.obind_n22, ↓DL.oslot_n22, ↓DL.dVar_n23, ↓DL.dgName_n23, ↓DL.obind_n23, ↓DL.oslot_n23, ↓DL.dVar_n24, ↓DL.dgName_n24, ↓DL.obind_n24, ↓DL.oslot_n24, ↓DL.dVar_n25, ↓DL.dgName_n25, ↓DL.obind_n25, ↓DL.oslot_n25, ↓DL.dVar_n26, ↓DL.dgName_n26, ↓DL.obind_n26, ↓DL.oslot_n26, ↓DL.dVar_n27, ↓DL.dgName_n27, ↓DL.obind_n27, ↓DL.oslot_n27, ↓DL.dVar_n28, ↓DL.dgName_n28, ↓DL.obind_n28, ↓DL.oslot_n28, ↓DL.dVar_n29, ↓DL.dgName_n29, ↓DL.obind_n29, ↓DL.oslot_n29, ↓DL.isiM_int, ↓DL.subTy_NoneType_int, ↓DL.subTy_bool_int, ↓DL.subTy_int_int, ↓DL.subTy_str_int, ↓DL.subTy_tuple_int, ↓DL.subTy_list_int, ↓DL.subTy_dict_int, ↓DL.isiM_str, ↓DL.subTy_NoneType_str, ↓DL.subTy_bool_str, ↓DL.subTy_int_str, ↓DL.subTy_str_str, ↓DL.subTy_tuple_str, ↓DL.subTy_list_str, ↓DL.subTy_dict_str, ↓DL.isiM_bool, ↓DL.subTy_NoneType_bool, ↓DL.subTy_bool_bool, ↓DL.subTy_int_bool, ↓DL.subTy_str_bool, ↓DL.subTy_tuple_bool, ↓DL.subTy_list_bool, ↓DL.subTy_dict_bool, ↓DL.isiM_list, ↓DL.subTy_NoneType_list, ↓DL.subTy_bool_list, ↓DL.subTy_int_list, ↓DL.subTy_str_list, ↓DL.subTy_tuple_list, ↓DL.subTy_list_list, ↓DL.subTy_dict_list, ↓DL.isiM_tuple, ↓DL.subTy_NoneType_tuple, ↓DL.subTy_bool_tuple, ↓DL.subTy_int_tuple, ↓DL.subTy_str_tuple, ↓DL.subTy_tuple_tuple, ↓DL.subTy_list_tuple, ↓DL.subTy_dict_tuple, ↓DL.isiM_dict, ↓DL.subTy_NoneType_dict, ↓DL.subTy_bool_dict, ↓DL.subTy_int_dict, ↓DL.subTy_str_dict, ↓DL.subTy_tuple_dict, ↓DL.subTy_list_dict, ↓DL.subTy_dict_dict, ↓DL.isNon_tup, ↓DL.isNon_lst, ↓DL.isNon_stup, ↓DL.isNon_slst, ↓DL.isNon_str, ↓DL.isNon_int, ↓DL.isNon_bl, ↓DL.isNon_ref, ↓DL.isNon_dK, ↓DL.isNon_dT, $[$ts:term],*]); (repeat ((with_reducible refine DL.seq_r (fun R hR => ?_)); simp only [DL.dFz, ↓DL.onL_e1, DL.dTold, DL.dMethX, DL.dMakeX, DL.dForK, DL.dLcV, ↓DL.dMax2_e1, ↓DL.dMaxL_e1, DL.keyV_str, DL.cutD_tail, eq_self, Int.reduceEq, List.nil_append, List.cons_append, DL.ofs_eq, String.reduceEq, DL.inD_cons, DL.inD_nil, Bool.or_false, Bool.or_true, Bool.false_or, Bool.true_or, decide_true, decide_false, not_true_eq_false, not_false_eq_true, DL.dPar, ↓DL.kPar_e1, DL.dPar3, ↓DL.kPar3_e1, DL.dGet1, DL.dGet2, DL.dKGet2, DL.dAsg, DL.dVar, DL.dgName, DL.dgLst, DL.dgSub, List.length_cons, List.length_nil, List.set_cons_zero, List.set_cons_succ, DL.dAnd, DL.dOr, DL.dNot, DL.dTest, DL.dTrue, DL.dOp, DL.dCB, DL.dACons, DL.dANil, DL.dInQ, DL.dIxQ, DL.dAug, DL.dC, DL.dRet, DL.dRetF, DL.dRetN, DL.dSl, DL.dPart, DL.dNoPart, DL.dIf, DL.dIfS, DL.dTup, DL.dLstF, DL.dLstO, DL.dDrop, DL.dNever, DL.dNext, DL.dBreak, DL.dCont, DL.dFor, DL.dILst, DL.dITup, DL.dIStr, DL.dIRng1, DL.dIRng2, DL.dIEnum, DL.dIZip, DL.dBM, DL.dBM0, DL.dCall, DL.dFld, DL.dSFld, DL.dSFldI, DL.dMeth, DL.dMake, DL.dRaise, DL.dXf, DL.dEqL, ↓DL.dStrip_e1, ↓DL.onX_e1, DL.dCallX, ↓DL.onI_e1, DL.dAddO, DL.dMulO, ↓DL.kMulO_e1, DL.dLcO, DL.dAndV, DL.dOrV, DL.dNotV, DL.dNeg, DL.dDix, DL.dDin, DL.dDisp, DL.dDispF, DL.dDNew, DL.dLc, DL.dLc2, DL.bind1, DL.dYes, DL.dFrz, List.map_cons, List.map_nil, List.getElem?_cons_succ, List.getElem?_cons_zero, DL.atI_0, DL.atI_1, DL.atI_2, DL.atI_3, DL.atI_4, DL.atI_5, DL.atI_6, DL.atI_7, DL.ixN_0, DL.ixN_1, DL.ixN_2, DL.ixN_3, DL.oset_same, DL.oset_oset, DL.tl_one, DL.tl_ofL, TL.len_tl, DL.atI_nat_, Bool.false_eq_true, Bool.true_eq_false, Bool.not_false, Bool.not_true, if_true, if_false, decide_eq_true_eq, Bool.not_eq_true', Bool.not_eq_true, decide_eq_false_iff_not, Option.isSome_some, Option.isSome_none, List.all_cons, List.all_nil, Bool.and_self, Bool.true_and, Bool.and_true, ↓reduceIte, and_true, true_and, Nat.zero_add, Nat.reduceAdd, Nat.reduceLeDiff, ↓DL.onSome_e1, ↓DL.onL_e1, ↓DL.lstQ_e1, ↓DL.lstQ_e2, ↓DL.seqQ_e1, ↓DL.seqQ_e2, ↓DL.seqQ_e3, ↓DL.seqQ_e4, ↓DL.seqQ_e5, ↓DL.sqlQ_e1, ↓DL.sqlQ_e2, ↓DL.sqlQ_e3, ↓DL.onK_e1, ↓DL.onT_e1, ↓DL.dkQ_e1, ↓DL.dkQ_e2, ↓DL.dtQ_e1, ↓DL.dtQ_e2, ↓DL.findQ_e1, ↓DL.findQ_e2, ↓DL.findQ_e3, ↓DL.dAdd_e1, ↓DL.dAdd_e2, ↓DL.dAdd_e3, ↓DL.dAdd_e4, ↓DL.dAdd_e5, ↓DL.dAdd_e6, ↓DL.dAdd_e7, ↓DL.dI2_e1, ↓DL.dSub_e1, ↓DL.dCmpI_e1, ↓DL.dEq_e1, ↓DL.dEq_e2, ↓DL.dEq_e3, ↓DL.dEq_e4, ↓DL.dEq_e5, ↓DL.dEq_e6, ↓DL.dEq_e7, ↓DL.dEq_e8, ↓DL.dEq_e9, ↓DL.dEq_e10, ↓DL.dEq_e11, ↓DL.dEq_e12, ↓DL.dEq_e13, ↓DL.dEq_e14, ↓DL.dEq_e15, ↓DL.dIsN_e1, DL.isNon_e1, ↓DL.dInS_e1, ↓DL.dIn_e1, ↓DL.dIn_e2, ↓DL.dIn_e3, ↓DL.dIn_e4, ↓DL.dIn_e5, ↓DL.dIn_e6, ↓DL.dInK_e1, ↓DL.dIx_e1, ↓DL.dIx_e2, ↓DL.dIx_e3, ↓DL.dIx_e4, ↓DL.dIx_e5, ↓DL.dIx_e6, ↓DL.kBl_e1, ↓DL.kInt_e1, ↓DL.kTru_e1, ↓DL.kTru_e2, ↓DL.kTru_e3, ↓DL.kTru_e4, ↓DL.kTru_e5, ↓DL.kTru_e6, ↓DL.kTru_e7, ↓DL.kTru_e8, ↓DL.kTru_e9, ↓DL.kRef_e1, ↓DL.kLst_e1, ↓DL.kLst_e2, ↓DL.kTup_e1, ↓DL.kTup_e2, ↓DL.kStr_e1, ↓DL.kRng1_e1, ↓DL.kRng2_e1, ↓DL.kEnum_e1, ↓DL.kEnum_e2, ↓DL.kZip_e1, ↓DL.frzC_e1, ↓DL.frzC_e2, ↓DL.frzC_e3, ↓DL.dSlR_e1, ↓DL.dSlR_e2, ↓DL.dSlR_e3, ↓DL.dSlR_e4, ↓DL.dSlR_e5, ↓DL.dLen_e1, ↓DL.dLen_e2, ↓DL.dLen_e3, ↓DL.dLen_e4, ↓DL.dLen_e5, ↓DL.dLen_e6, ↓DL.dInt_e1, ↓DL.dInt_e2, ↓DL.dInt_e3, ↓DL.dStrI_e1, ↓DL.dIsi_e1, DL.tyName_e1, DL.tyName_e2, DL.tyName_e3, DL.tyName_e4, DL.tyName_e5, DL.tyName_e6, DL.tyName_e7, DL.tyName_e8, DL.tyName_e9, DL.tyName_e10, ↓DL.dApp_e1, ↓DL.dJoin_e1, ↓DL.dSplit_e1, ↓DL.dgNil_e1, ↓DL.dgCons_e1, ↓DL.dgTup_e1, ↓DL.dSetL_e1, ↓DL.dSetD_e1, ↓DL.dSetD_e2, ↓DL.dSetD_e3, ↓DL.dIAdd_e1, ↓DL.dIAdd_e2, ↓DL.dISub_e1, ↓DL.apart_e1, ↓DL.dUpd_e1, ↓DL.dMulS_e1, ↓DL.dInL_e1, ↓DL.endLc_e1, ↓DL.endLc_e2, DL.bindN_e1, DL.setAll_e1, DL.setAll_e2, DL.mTy_e1, DL.mTy_e2, DL.mTy_e3, DL.mTy_e4, DL.strsOf_e1, DL.strsOf_e2, DL.keyD_e1, DL.keyD_e2, DL.keysD_e1, DL.keysD_e2, ↓DL.forW_e1, ↓DL.forW_e2, ↓DL.lcW_e1, ↓DL.lcW_e2, ↓DL.lcG_e1, ↓DL.lcG_e2, ↓DL.lc2W_e1, ↓DL.lc2W_e2, ↓DL.dPairs_e1, ↓DL.dPairs_e2, DL.kvsOf_e1, DL.kvsOf_e2, DL.slot_e1, DL.slot_e2, DL.dwipe_e1, DL.dwipe_e2, DL.enumD_e1, DL.enumD_e2, DL.zipD_e1, DL.dstart_e1, DL.dstart_e2, DL.dstart_e3, DL.flatD_e1, DL.flatD_e2, DL.flatD_e3, DL.flatD_e4, DL.eqF_e1, DL.eqF_e2, DL.eqF_e3, DL.eqF_e4, DL.eqF_e5, DL.eqF_e6, ↓DL.dTupOf_e1, ↓DL.dTupOf_e2, ↓DL.dTupOf_e3, ↓DL.dListOf_e1, ↓DL.dMin2_e1, ↓DL.dExt_e1, ↓DL.dMulL_e1, ↓DL.dIsD_e1, ↓DL.dIsD_e2, ↓DL.dIsD_e3, ↓DL.dSortD_e1, ↓DL.kStr1_e1, DL.klook_e1, ↓DL.dVar_n0, ↓DL.dgName_n0, ↓DL.obind_n0, ↓DL.oslot_n0, ↓DL.dVar_n1, ↓DL.dgName_n1, ↓DL.obind_n1, ↓DL.oslot_n1, ↓DL.dVar_n2, ↓DL.dgName_n2, ↓DL.obind_n2, ↓DL.oslot_n2, ↓DL.dVar_n3, ↓DL.dgName_n3, ↓DL.obind_n3, ↓DL.oslot_n3, ↓DL.dVar_n4, ↓DL.dgName_n4, ↓DL.obind_n4, ↓DL.oslot_n4, ↓DL.dVar_n5, ↓DL.dgName_n5, ↓DL.obind_n5, ↓DL.oslot_n5, ↓DL.dVar_n6, ↓DL.dgName_n6, ↓DL.obind_n6, ↓DL.oslot_n6, ↓DL.dVar_n7, ↓DL.dgName_n7, ↓DL.obind_n7, ↓DL.oslot_n7, ↓DL.dVar_n8, ↓DL.dgName_n8, ↓DL.obind_n8, ↓DL.oslot_n8, ↓DL.dVar_n9, ↓DL.dgName_n9, ↓DL.obind_n9, ↓DL.oslot_n9, ↓DL.dVar_n10, ↓DL.dgName_n10, ↓DL.obind_n10, ↓DL.oslot_n10, ↓DL.dVar_n11, ↓DL.dgName_n11, ↓DL.obind_n11, ↓DL.oslot_n11, ↓DL.dVar_n12, ↓DL.dgName_n12, ↓DL.obind_n12, ↓DL.oslot_n12, ↓DL.dVar_n13, ↓DL.dgName_n13, ↓DL.obind_n13, ↓DL.oslot_n13, ↓DL.dVar_n14, ↓DL.dgName_n14, ↓DL.obind_n14, ↓DL.oslot_n14, ↓DL.dVar_n15, ↓DL.dgName_n15, ↓DL.obind_n15, ↓DL.oslot_n15, ↓DL.dVar_n16, ↓DL.dgName_n16, ↓DL.obind_n16, ↓DL.oslot_n16, ↓DL.dVar_n17, ↓DL.dgName_n17, ↓DL.obind_n17, ↓DL.oslot_n17, ↓DL.dVar_n18, ↓DL.dgName_n18, ↓DL.obind_n18, ↓DL.oslot_n18, ↓DL.dVar_n19, ↓DL.dgName_n19, ↓DL.obind_n19, ↓DL.oslot_n19, ↓DL.dVar_n20, ↓DL.dgName_n20, ↓DL.obind_n20, ↓DL.oslot_n20, ↓DL.dVar_n21, ↓DL.dgName_n21, ↓DL.obind_n21, ↓DL.oslot_n21, ↓DL.dVar_n22, ↓DL.dgName_n22, ↓DL.obind_n22, ↓DL.oslot_n22, ↓DL.dVar_n23, ↓DL.dgName_n23, ↓DL.obind_n23, ↓DL.oslot_n23, ↓DL.dVar_n24, ↓DL.dgName_n24, ↓DL.obind_n24, ↓DL.oslot_n24, ↓DL.dVar_n25, ↓DL.dgName_n25, ↓DL.obind_n25, ↓DL.oslot_n25, ↓DL.dVar_n26, ↓DL.dgName_n26, ↓DL.obind_n26, ↓DL.oslot_n26, ↓DL.dVar_n27, ↓DL.dgName_n27, ↓DL.obind_n27, ↓DL.oslot_n27, ↓DL.dVar_n28, ↓DL.dgName_n28, ↓DL.obind_n28, ↓DL.oslot_n28, ↓DL.dVar_n29, ↓DL.dgName_n29, ↓DL.obind_n29, ↓DL.oslot_n29, ↓DL.isiM_int, ↓DL.subTy_NoneType_int, ↓DL.subTy_bool_int, ↓DL.subTy_int_int, ↓DL.subTy_str_int, ↓DL.subTy_tuple_int, ↓DL.subTy_list_int, ↓DL.subTy_dict_int, ↓DL.isiM_str, ↓DL.subTy_NoneType_str, ↓DL.subTy_bool_str, ↓DL.subTy_int_str, ↓DL.subTy_str_str, ↓DL.subTy_tuple_str, ↓DL.subTy_list_str, ↓DL.subTy_dict_str, ↓DL.isiM_bool, ↓DL.subTy_NoneType_bool, ↓DL.subTy_bool_bool, ↓DL.subTy_int_bool, ↓DL.subTy_str_bool, ↓DL.subTy_tuple_bool, ↓DL.subTy_list_bool, ↓DL.subTy_dict_bool, ↓DL.isiM_list, ↓DL.subTy_NoneType_list, ↓DL.subTy_bool_list, ↓DL.subTy_int_list, ↓DL.subTy_str_list, ↓DL.subTy_tuple_list, ↓DL.subTy_list_list, ↓DL.subTy_dict_list, ↓DL.isiM_tuple, ↓DL.subTy_NoneType_tuple, ↓DL.subTy_bool_tuple, ↓DL.subTy_int_tuple, ↓DL.subTy_str_tuple, ↓DL.subTy_tuple_tuple, ↓DL.subTy_list_tuple, ↓DL.subTy_dict_tuple, ↓DL.isiM_dict, ↓DL.subTy_NoneType_dict, ↓DL.subTy_bool_dict, ↓DL.subTy_int_dict, ↓DL.subTy_str_dict, ↓DL.subTy_tuple_dict, ↓DL.subTy_list_dict, ↓DL.subTy_dict_dict, ↓DL.isNon_tup, ↓DL.isNon_lst, ↓DL.isNon_stup, ↓DL.isNon_slst, ↓DL.isNon_str, ↓DL.isNon_int, ↓DL.isNon_bl, ↓DL.isNon_ref, ↓DL.isNon_dK, ↓DL.isNon_dT, $[$ts:term],*]; subst hR)); (try simp only [DL.dFz, ↓DL.onL_e1, DL.dTold, DL.dMethX, DL.dMakeX, DL.dForK, DL.dLcV, ↓DL.dMax2_e1, ↓DL.dMaxL_e1, DL.keyV_str, DL.cutD_tail, eq_self, Int.reduceEq, List.nil_append, List.cons_append, DL.ofs_eq, String.reduceEq, DL.inD_cons, DL.inD_nil, Bool.or_false, Bool.or_true, Bool.false_or, Bool.true_or, decide_true, decide_false, not_true_eq_false, not_false_eq_true, DL.dPar, ↓DL.kPar_e1, DL.dPar3, ↓DL.kPar3_e1, DL.dGet1, DL.dGet2, DL.dKGet2, DL.dAsg, DL.dVar, DL.dgName, DL.dgLst, DL.dgSub, List.length_cons, List.length_nil, List.set_cons_zero, List.set_cons_succ, DL.dAnd, DL.dOr, DL.dNot, DL.dTest, DL.dTrue, DL.dOp, DL.dCB, DL.dACons, DL.dANil, DL.dInQ, DL.dIxQ, DL.dAug, DL.dC, DL.dRet, DL.dRetF, DL.dRetN, DL.dSl, DL.dPart, DL.dNoPart, DL.dIf, DL.dIfS, DL.dTup, DL.dLstF, DL.dLstO, DL.dDrop, DL.dNever, DL.dNext, DL.dBreak, DL.dCont, DL.dFor, DL.dILst, DL.dITup, DL.dIStr, DL.dIRng1, DL.dIRng2, DL.dIEnum, DL.dIZip, DL.dBM, DL.dBM0, DL.dCall, DL.dFld, DL.dSFld, DL.dSFldI, DL.dMeth, DL.dMake, DL.dRaise, DL.dXf, DL.dEqL, ↓DL.dStrip_e1, ↓DL.onX_e1, DL.dCallX, ↓DL.onI_e1, DL.dAddO, DL.dMulO, ↓DL.kMulO_e1, DL.dLcO, DL.dAndV, DL.dOrV, DL.dNotV, DL.dNeg, DL.dDix, DL.dDin, DL.dDisp, DL.dDispF, DL.dDNew, DL.dLc, DL.dLc2, DL.bind1, DL.dYes, DL.dFrz, List.map_cons, List.map_nil, List.getElem?_cons_succ, List.getElem?_cons_zero, DL.atI_0, DL.atI_1, DL.atI_2, DL.atI_3, DL.atI_4, DL.atI_5, DL.atI_6, DL.atI_7, DL.ixN_0, DL.ixN_1, DL.ixN_2, DL.ixN_3, DL.oset_same, DL.oset_oset, DL.tl_one, DL.tl_ofL, TL.len_tl, DL.atI_nat_, Bool.false_eq_true, Bool.true_eq_false, Bool.not_false, Bool.not_true, if_true, if_false, decide_eq_true_eq, Bool.not_eq_true', Bool.not_eq_true, decide_eq_false_iff_not, Option.isSome_some, Option.isSome_none, List.all_cons, List.all_nil, Bool.and_self, Bool.true_and, Bool.and_true, ↓reduceIte, and_true, true_and, Nat.zero_add, Nat.reduceAdd, Nat.reduceLeDiff, ↓DL.onSome_e1, ↓DL.onL_e1, ↓DL.lstQ_e1, ↓DL.lstQ_e2, ↓DL.seqQ_e1, ↓DL.seqQ_e2, ↓DL.seqQ_e3, ↓DL.seqQ_e4, ↓DL.seqQ_e5, ↓DL.sqlQ_e1, ↓DL.sqlQ_e2, ↓DL.sqlQ_e3, ↓DL.onK_e1, ↓DL.onT_e1, ↓DL.dkQ_e1, ↓DL.dkQ_e2, ↓DL.dtQ_e1, ↓DL.dtQ_e2, ↓DL.findQ_e1, ↓DL.findQ_e2, ↓DL.findQ_e3, ↓DL.dAdd_e1, ↓DL.dAdd_e2, ↓DL.dAdd_e3, ↓DL.dAdd_e4, ↓DL.dAdd_e5, ↓DL.dAdd_e6, ↓DL.dAdd_e7, ↓DL.dI2_e1, ↓DL.dSub_e1, ↓DL.dCmpI_e1, ↓DL.dEq_e1, ↓DL.dEq_e2, ↓DL.dEq_e3, ↓DL.dEq_e4, ↓DL.dEq_e5, ↓DL.dEq_e6, ↓DL.dEq_e7, ↓DL.dEq_e8, ↓DL.dEq_e9, ↓DL.dEq_e10, ↓DL.dEq_e11, ↓DL.dEq_e12, ↓DL.dEq_e13, ↓DL.dEq_e14, ↓DL.dEq_e15, ↓DL.dIsN_e1, DL.isNon_e1, ↓DL.dInS_e1, ↓DL.dIn_e1, ↓DL.dIn_e2, ↓DL.dIn_e3, ↓DL.dIn_e4, ↓DL.dIn_e5, ↓DL.dIn_e6, ↓DL.dInK_e1, ↓DL.dIx_e1, ↓DL.dIx_e2, ↓DL.dIx_e3, ↓DL.dIx_e4, ↓DL.dIx_e5, ↓DL.dIx_e6, ↓DL.kBl_e1, ↓DL.kInt_e1, ↓DL.kTru_e1, ↓DL.kTru_e2, ↓DL.kTru_e3, ↓DL.kTru_e4, ↓DL.kTru_e5, ↓DL.kTru_e6, ↓DL.kTru_e7, ↓DL.kTru_e8, ↓DL.kTru_e9, ↓DL.kRef_e1, ↓DL.kLst_e1, ↓DL.kLst_e2, ↓DL.kTup_e1, ↓DL.kTup_e2, ↓DL.kStr_e1, ↓DL.kRng1_e1, ↓DL.kRng2_e1, ↓DL.kEnum_e1, ↓DL.kEnum_e2, ↓DL.kZip_e1, ↓DL.frzC_e1, ↓DL.frzC_e2, ↓DL.frzC_e3, ↓DL.dSlR_e1, ↓DL.dSlR_e2, ↓DL.dSlR_e3, ↓DL.dSlR_e4, ↓DL.dSlR_e5, ↓DL.dLen_e1, ↓DL.dLen_e2, ↓DL.dLen_e3, ↓DL.dLen_e4, ↓DL.dLen_e5, ↓DL.dLen_e6, ↓DL.dInt_e1, ↓DL.dInt_e2, ↓DL.dInt_e3, ↓DL.dStrI_e1, ↓DL.dIsi_e1, DL.tyName_e1, DL.tyName_e2, DL.tyName_e3, DL.tyName_e4, DL.tyName_e5, DL.tyName_e6, DL.tyName_e7, DL.tyName_e8, DL.tyName_e9, DL.tyName_e10, ↓DL.dApp_e1, ↓DL.dJoin_e1, ↓DL.dSplit_e1, ↓DL.dgNil_e1, ↓DL.dgCons_e1, ↓DL.dgTup_e1, ↓DL.dSetL_e1, ↓DL.dSetD_e1, ↓DL.dSetD_e2, ↓DL.dSetD_e3, ↓DL.dIAdd_e1, ↓DL.dIAdd_e2, ↓DL.dISub_e1, ↓DL.apart_e1, ↓DL.dUpd_e1, ↓DL.dMulS_e1, ↓DL.dInL_e1, ↓DL.endLc_e1, ↓DL.endLc_e2, DL.bindN_e1, DL.setAll_e1, DL.setAll_e2, DL.mTy_e1, DL.mTy_e2, DL.mTy_e3, DL.mTy_e4, DL.strsOf_e1, DL.strsOf_e2, DL.keyD_e1, DL.keyD_e2, DL.keysD_e1, DL.keysD_e2, ↓DL.forW_e1, ↓DL.forW_e2, ↓DL.lcW_e1, ↓DL.lcW_e2, ↓DL.lcG_e1, ↓DL.lcG_e2, ↓DL.lc2W_e1, ↓DL.lc2W_e2, ↓DL.dPairs_e1, ↓DL.dPairs_e2, DL.kvsOf_e1, DL.kvsOf_e2, DL.slot_e1, DL.slot_e2, DL.dwipe_e1, DL.dwipe_e2, DL.enumD_e1, DL.enumD_e2, DL.zipD_e1, DL.dstart_e1, DL.dstart_e2, DL.dstart_e3, DL.flatD_e1, DL.flatD_e2, DL.flatD_e3, DL.flatD_e4, DL.eqF_e1, DL.eqF_e2, DL.eqF_e3, DL.eqF_e4, DL.eqF_e5, DL.eqF_e6, ↓DL.dTupOf_e1, ↓DL.dTupOf_e2, ↓DL.dTupOf_e3, ↓DL.dListOf_e1, ↓DL.dMin2_e1, ↓DL.dExt_e1, ↓DL.dMulL_e1, ↓DL.dIsD_e1, ↓DL.dIsD_e2, ↓DL.dIsD_e3, ↓DL.dSortD_e1, ↓DL.kStr1_e1, DL.klook_e1, ↓DL.dVar_n0, ↓DL.dgName_n0, ↓DL.obind_n0, ↓DL.oslot_n0, ↓DL.dVar_n1, ↓DL.dgName_n1, ↓DL.obind_n1, ↓DL.oslot_n1, ↓DL.dVar_n2, ↓DL.dgName_n2, ↓DL.obind_n2, ↓DL.oslot_n2, ↓DL.dVar_n3, ↓DL.dgName_n3, ↓DL.obind_n3, ↓DL.oslot_n3, ↓DL.dVar_n4, ↓DL.dgName_n4, ↓DL.obind_n4, ↓DL.oslot_n4, ↓DL.dVar_n5, ↓DL.dgName_n5, ↓DL.obind_n5, ↓DL.oslot_n5, ↓DL.dVar_n6, ↓DL.dgName_n6, ↓DL.obind_n6, ↓DL.oslot_n6, ↓DL.dVar_n7, ↓DL.dgName_n7, ↓DL.obind_n7, ↓DL.oslot_n7, ↓DL.dVar_n8, ↓DL.dgName_n8, ↓DL.obind_n8, ↓DL.oslot_n8, ↓DL.dVar_n9, ↓DL.dgName_n9, ↓DL.obind_n9, ↓DL.oslot_n9, ↓DL.dVar_n10, ↓DL.dgName_n10, ↓DL.obind_n10, ↓DL.oslot_n10, ↓DL.dVar_n11, ↓DL.dgName_n11, ↓DL.obind_n11, ↓DL.oslot_n11, ↓DL.dVar_n12, ↓DL.dgName_n12, ↓DL.obind_n12, ↓DL.oslot_n12, ↓DL.dVar_n13, ↓DL.dgName_n13, ↓DL.obind_n13, ↓DL.oslot_n13, ↓DL.dVar_n14, ↓DL.dgName_n14, ↓DL.obind_n14, ↓DL.oslot_n14, ↓DL.dVar_n15, ↓DL.dgName_n15, ↓DL.obind_n15, ↓DL.oslot_n15, ↓DL.dVar_n16, ↓DL.dgName_n16, ↓DL.obind_n16, ↓DL.oslot_n16, ↓DL.dVar_n17, ↓DL.dgName_n17, ↓DL.obind_n17, ↓DL.oslot_n17, ↓DL.dVar_n18, ↓DL.dgName_n18, ↓DL.obind_n18, ↓DL.oslot_n18, ↓DL.dVar_n19, ↓DL.dgName_n19, ↓DL.obind_n19, ↓DL.oslot_n19, ↓DL.dVar_n20, ↓DL.dgName_n20, ↓DL.obind_n20, ↓DL.oslot_n20, ↓DL.dVar_n21, ↓DL.dgName_n21, ↓DL.obind_n21, ↓DL.oslot_n21, ↓DL.dVar_n22, ↓DL.dgName_n22, ↓DL.obind_n22, ↓DL.oslot_n22, ↓DL.dVar_n23, ↓DL.dgName_n23, ↓DL.obind_n23, ↓DL.oslot_n23, ↓DL.dVar_n24, ↓DL.dgName_n24, ↓DL.obind_n24, ↓DL.oslot_n24, ↓DL.dVar_n25, ↓DL.dgName_n25, ↓DL.obind_n25, ↓DL.oslot_n25, ↓DL.dVar_n26, ↓DL.dgName_n26, ↓DL.obind_n26, ↓DL.oslot_n26, ↓DL.dVar_n27, ↓DL.dgName_n27, ↓DL.obind_n27, ↓DL.oslot_n27, ↓DL.dVar_n28, ↓DL.dgName_n28, ↓DL.obind_n28, ↓DL.oslot_n28, ↓DL.dVar_n29, ↓DL.dgName_n29, ↓DL.obind_n29, ↓DL.oslot_n29, ↓DL.isiM_int, ↓DL.subTy_NoneType_int, ↓DL.subTy_bool_int, ↓DL.subTy_int_int, ↓DL.subTy_str_int, ↓DL.subTy_tuple_int, ↓DL.subTy_list_int, ↓DL.subTy_dict_int, ↓DL.isiM_str, ↓DL.subTy_NoneType_str, ↓DL.subTy_bool_str, ↓DL.subTy_int_str, ↓DL.subTy_str_str, ↓DL.subTy_tuple_str, ↓DL.subTy_list_str, ↓DL.subTy_dict_str, ↓DL.isiM_bool, ↓DL.subTy_NoneType_bool, ↓DL.subTy_bool_bool, ↓DL.subTy_int_bool, ↓DL.subTy_str_bool, ↓DL.subTy_tuple_bool, ↓DL.subTy_list_bool, ↓DL.subTy_dict_bool, ↓DL.isiM_list, ↓DL.subTy_NoneType_list, ↓DL.subTy_bool_list, ↓DL.subTy_int_list, ↓DL.subTy_str_list, ↓DL.subTy_tuple_list, ↓DL.subTy_list_list, ↓DL.subTy_dict_list, ↓DL.isiM_tuple, ↓DL.subTy_NoneType_tuple, ↓DL.subTy_bool_tuple, ↓DL.subTy_int_tuple, ↓DL.subTy_str_tuple, ↓DL.subTy_tuple_tuple, ↓DL.subTy_list_tuple, ↓DL.subTy_dict_tuple, ↓DL.isiM_dict, ↓DL.subTy_NoneType_dict, ↓DL.subTy_bool_dict, ↓DL.subTy_int_dict, ↓DL.subTy_str_dict, ↓DL.subTy_tuple_dict, ↓DL.subTy_list_dict, ↓DL.subTy_dict_dict, ↓DL.isNon_tup, ↓DL.isNon_lst, ↓DL.isNon_stup, ↓DL.isNon_slst, ↓DL.isNon_str, ↓DL.isNon_int, ↓DL.isNon_bl, ↓DL.isNon_ref, ↓DL.isNon_dK, ↓DL.isNon_dT, $[$ts:term],*]); (repeat ((with_reducible refine And.intro ?_ ?_); (walk_at "sz"); (try simp only [DL.dFz, ↓DL.onL_e1, DL.dTold, DL.dMethX, DL.dMakeX, DL.dForK, DL.dLcV, ↓DL.dMax2_e1, ↓DL.dMaxL_e1, DL.keyV_str, DL.cutD_tail, eq_self, Int.reduceEq, List.nil_append, List.cons_append, DL.ofs_eq, String.reduceEq, DL.inD_cons, DL.inD_nil, Bool.or_false, Bool.or_true, Bool.false_or, Bool.true_or, decide_true, decide_false, not_true_eq_false, not_false_eq_true, DL.dPar, ↓DL.kPar_e1, DL.dPar3, ↓DL.kPar3_e1, DL.dGet1, DL.dGet2, DL.dKGet2, DL.dAsg, DL.dVar, DL.dgName, DL.dgLst, DL.dgSub, List.length_cons, List.length_nil, List.set_cons_zero, List.set_cons_succ, DL.dAnd, DL.dOr, DL.dNot, DL.dTest, DL.dTrue, DL.dOp, DL.dCB, DL.dACons, DL.dANil, DL.dInQ, DL.dIxQ, DL.dAug, DL.dC, DL.dRet, DL.dRetF, DL.dRetN, DL.dSl, DL.dPart, DL.dNoPart, DL.dIf, DL.dIfS, DL.dTup, DL.dLstF, DL.dLstO, DL.dDrop, DL.dNever, DL.dNext, DL.dBreak, DL.dCont, DL.dFor, DL.dILst, DL.dITup, DL.dIStr, DL.dIRng1, DL.dIRng2, DL.dIEnum, DL.dIZip, DL.dBM, DL.dBM0, DL.dCall, DL.dFld, DL.dSFld, DL.dSFldI, DL.dMeth, DL.dMake, DL.dRaise, DL.dXf, DL.dEqL, ↓DL.dStrip_e1, ↓DL.onX_e1, DL.dCallX, ↓DL.onI_e1, DL.dAddO, DL.dMulO, ↓DL.kMulO_e1, DL.dLcO, DL.dAndV, DL.dOrV, DL.dNotV, DL.dNeg, DL.dDix, DL.dDin, DL.dDisp, DL.dDispF, DL.dDNew, DL.dLc, DL.dLc2, DL.bind1, DL.dYes, DL.dFrz, List.map_cons, List.map_nil, List.getElem?_cons_succ, List.getElem?_cons_zero, DL.atI_0, DL.atI_1, DL.atI_2, DL.atI_3, DL.atI_4, DL.atI_5, DL.atI_6, DL.atI_7, DL.ixN_0, DL.ixN_1, DL.ixN_2, DL.ixN_3, DL.oset_same, DL.oset_oset, DL.tl_one, DL.tl_ofL, TL.len_tl, DL.atI_nat_, Bool.false_eq_true, Bool.true_eq_false, Bool.not_false, Bool.not_true, if_true, if_false, decide_eq_true_eq, Bool.not_eq_true', Bool.not_eq_true, decide_eq_false_iff_not, Option.isSome_some, Option.isSome_none, List.all_cons, List.all_nil, Bool.and_self, Bool.true_and, Bool.and_true, ↓reduceIte, and_true, true_and, Nat.zero_add, Nat.reduceAdd, Nat.reduceLeDiff, ↓DL.onSome_e1, ↓DL.onL_e1, ↓DL.lstQ_e1, ↓DL.lstQ_e2, ↓DL.seqQ_e1, ↓DL.seqQ_e2, ↓DL.seqQ_e3, ↓DL.seqQ_e4, ↓DL.seqQ_e5, ↓DL.sqlQ_e1, ↓DL.sqlQ_e2, ↓DL.sqlQ_e3, ↓DL.onK_e1, ↓DL.onT_e1, ↓DL.dkQ_e1, ↓DL.dkQ_e2, ↓DL.dtQ_e1, ↓DL.dtQ_e2, ↓DL.findQ_e1, ↓DL.findQ_e2, ↓DL.findQ_e3, ↓DL.dAdd_e1, ↓DL.dAdd_e2, ↓DL.dAdd_e3, ↓DL.dAdd_e4, ↓DL.dAdd_e5, ↓DL.dAdd_e6, ↓DL.dAdd_e7, ↓DL.dI2_e1, ↓DL.dSub_e1, ↓DL.dCmpI_e1, ↓DL.dEq_e1, ↓DL.dEq_e2, ↓DL.dEq_e3, ↓DL.dEq_e4, ↓DL.dEq_e5, ↓DL.dEq_e6, ↓DL.dEq_e7, ↓DL.dEq_e8, ↓DL.dEq_e9, ↓DL.dEq_e10, ↓DL.dEq_e11, ↓DL.dEq_e12, ↓DL.dEq_e13, ↓DL.dEq_e14, ↓DL.dEq_e15, ↓DL.dIsN_e1, DL.isNon_e1, ↓DL.dInS_e1, ↓DL.dIn_e1, ↓DL.dIn_e2, ↓DL.dIn_e3, ↓DL.dIn_e4, ↓DL.dIn_e5, ↓DL.dIn_e6, ↓DL.dInK_e1, ↓DL.dIx_e1, ↓DL.dIx_e2, ↓DL.dIx_e3, ↓DL.dIx_e4, ↓DL.dIx_e5, ↓DL.dIx_e6, ↓DL.kBl_e1, ↓DL.kInt_e1, ↓DL.kTru_e1, ↓DL.kTru_e2, ↓DL.kTru_e3, ↓DL.kTru_e4, ↓DL.kTru_e5, ↓DL.kTru_e6, ↓DL.kTru_e7, ↓DL.kTru_e8, ↓DL.kTru_e9, ↓DL.kRef_e1, ↓DL.kLst_e1, ↓DL.kLst_e2, ↓DL.kTup_e1, ↓DL.kTup_e2, ↓DL.kStr_e1, ↓DL.kRng1_e1, ↓DL.kRng2_e1, ↓DL.kEnum_e1, ↓DL.kEnum_e2, ↓DL.kZip_e1, ↓DL.frzC_e1, ↓DL.frzC_e2, ↓DL.frzC_e3, ↓DL.dSlR_e1, ↓DL.dSlR_e2, ↓DL.dSlR_e3, ↓DL.dSlR_e4, ↓DL.dSlR_e5, ↓DL.dLen_e1, ↓DL.dLen_e2, ↓DL.dLen_e3, ↓DL.dLen_e4, ↓DL.dLen_e5, ↓DL.dLen_e6, ↓DL.dInt_e1, ↓DL.dInt_e2, ↓DL.dInt_e3, ↓DL.dStrI_e1, ↓DL.dIsi_e1, DL.tyName_e1, DL.tyName_e2, DL.tyName_e3, DL.tyName_e4, DL.tyName_e5, DL.tyName_e6, DL.tyName_e7, DL.tyName_e8, DL.tyName_e9, DL.tyName_e10, ↓DL.dApp_e1, ↓DL.dJoin_e1, ↓DL.dSplit_e1, ↓DL.dgNil_e1, ↓DL.dgCons_e1, ↓DL.dgTup_e1, ↓DL.dSetL_e1, ↓DL.dSetD_e1, ↓DL.dSetD_e2, ↓DL.dSetD_e3, ↓DL.dIAdd_e1, ↓DL.dIAdd_e2, ↓DL.dISub_e1, ↓DL.apart_e1, ↓DL.dUpd_e1, ↓DL.dMulS_e1, ↓DL.dInL_e1, ↓DL.endLc_e1, ↓DL.endLc_e2, DL.bindN_e1, DL.setAll_e1, DL.setAll_e2, DL.mTy_e1, DL.mTy_e2, DL.mTy_e3, DL.mTy_e4, DL.strsOf_e1, DL.strsOf_e2, DL.keyD_e1, DL.keyD_e2, DL.keysD_e1, DL.keysD_e2, ↓DL.forW_e1, ↓DL.forW_e2, ↓DL.lcW_e1, ↓DL.lcW_e2, ↓DL.lcG_e1, ↓DL.lcG_e2, ↓DL.lc2W_e1, ↓DL.lc2W_e2, ↓DL.dPairs_e1, ↓DL.dPairs_e2, DL.kvsOf_e1, DL.kvsOf_e2, DL.slot_e1, DL.slot_e2, DL.dwipe_e1, DL.dwipe_e2, DL.enumD_e1, DL.enumD_e2, DL.zipD_e1, DL.dstart_e1, DL.dstart_e2, DL.dstart_e3, DL.flatD_e1, DL.flatD_e2, DL.flatD_e3, DL.flatD_e4, DL.eqF_e1, DL.eqF_e2, DL.eqF_e3, DL.eqF_e4, DL.eqF_e5, DL.eqF_e6, ↓DL.dTupOf_e1, ↓DL.dTupOf_e2, ↓DL.dTupOf_e3, ↓DL.dListOf_e1, ↓DL.dMin2_e1, ↓DL.dExt_e1, ↓DL.dMulL_e1, ↓DL.dIsD_e1, ↓DL.dIsD_e2, ↓DL.dIsD_e3, ↓DL.dSortD_e1, ↓DL.kStr1_e1, DL.klook_e1, ↓DL.dVar_n0, ↓DL.dgName_n0, ↓DL.obind_n0, ↓DL.oslot_n0, ↓DL.dVar_n1, ↓DL.dgName_n1, ↓DL.obind_n1, ↓DL.oslot_n1, ↓DL.dVar_n2, ↓DL.dgName_n2, ↓DL.obind_n2, ↓DL.oslot_n2, ↓DL.dVar_n3, ↓DL.dgName_n3, ↓DL.obind_n3, ↓DL.oslot_n3, ↓DL.dVar_n4, ↓DL.dgName_n4, ↓DL.obind_n4, ↓DL.oslot_n4, ↓DL.dVar_n5, ↓DL.dgName_n5, ↓DL.obind_n5, ↓DL.oslot_n5, ↓DL.dVar_n6, ↓DL.dgName_n6, ↓DL.obind_n6, ↓DL.oslot_n6, ↓DL.dVar_n7, ↓DL.dgName_n7, ↓DL.obind_n7, ↓DL.oslot_n7, ↓DL.dVar_n8, ↓DL.dgName_n8, ↓DL.obind_n8, ↓DL.oslot_n8, ↓DL.dVar_n9, ↓DL.dgName_n9, ↓DL.obind_n9, ↓DL.oslot_n9, ↓DL.dVar_n10, ↓DL.dgName_n10, ↓DL.obind_n10, ↓DL.oslot_n10, ↓DL.dVar_n11, ↓DL.dgName_n11, ↓DL.obind_n11, ↓DL.oslot_n11, ↓DL.dVar_n12, ↓DL.dgName_n12, ↓DL.obind_n12, ↓DL.oslot_n12, ↓DL.dVar_n13, ↓DL.dgName_n13, ↓DL.obind_n13, ↓DL.oslot_n13, ↓DL.dVar_n14, ↓DL.dgName_n14, ↓DL.obind_n14, ↓DL.oslot_n14, ↓DL.dVar_n15, ↓DL.dgName_n15, ↓DL.obind_n15, ↓DL.oslot_n15, ↓DL.dVar_n16, ↓DL.dgName_n16, ↓DL.obind_n16, ↓DL.oslot_n16, ↓DL.dVar_n17, ↓DL.dgName_n17, ↓DL.obind_n17, ↓DL.oslot_n17, ↓DL.dVar_n18, ↓DL.dgName_n18, ↓DL.obind_n18, ↓DL.oslot_n18, ↓DL.dVar_n19, ↓DL.dgName_n19, ↓DL.obind_n19, ↓DL.oslot_n19, ↓DL.dVar_n20, ↓DL.dgName_n20, ↓DL.obind_n20, ↓DL.oslot_n20, ↓DL.dVar_n21, ↓DL.dgName_n21, ↓DL.obind_n21, ↓DL.oslot_n21, ↓DL.dVar_n22, ↓DL.dgName_n22, ↓DL.obind_n22, ↓DL.oslot_n22, ↓DL.dVar_n23, ↓DL.dgName_n23, ↓DL.obind_n23, ↓DL.oslot_n23, ↓DL.dVar_n24, ↓DL.dgName_n24, ↓DL.obind_n24, ↓DL.oslot_n24, ↓DL.dVar_n25, ↓DL.dgName_n25, ↓DL.obind_n25, ↓DL.oslot_n25, ↓DL.dVar_n26, ↓DL.dgName_n26, ↓DL.obind_n26, ↓DL.oslot_n26, ↓DL.dVar_n27, ↓DL.dgName_n27, ↓DL.obind_n27, ↓DL.oslot_n27, ↓DL.dVar_n28, ↓DL.dgName_n28, ↓DL.obind_n28, ↓DL.oslot_n28, ↓DL.dVar_n29, ↓DL.dgName_n29, ↓DL.obind_n29, ↓DL.oslot_n29, ↓DL.isiM_int, ↓DL.subTy_NoneType_int, ↓DL.subTy_bool_int, ↓DL.subTy_int_int, ↓DL.subTy_str_int, ↓DL.subTy_tuple_int, ↓DL.subTy_list_int, ↓DL.subTy_dict_int, ↓DL.isiM_str, ↓DL.subTy_NoneType_str, ↓DL.subTy_bool_str, ↓DL.subTy_int_str, ↓DL.subTy_str_str, ↓DL.subTy_tuple_str, ↓DL.subTy_list_str, ↓DL.subTy_dict_str, ↓DL.isiM_bool, ↓DL.subTy_NoneType_bool, ↓DL.subTy_bool_bool, ↓DL.subTy_int_bool, ↓DL.subTy_str_bool, ↓DL.subTy_tuple_bool, ↓DL.subTy_list_bool, ↓DL.subTy_dict_bool, ↓DL.isiM_list, ↓DL.subTy_NoneType_list, ↓DL.subTy_bool_list, ↓DL.subTy_int_list, ↓DL.subTy_str_list, ↓DL.subTy_tuple_list, ↓DL.subTy_list_list, ↓DL.subTy_dict_list, ↓DL.isiM_tuple, ↓DL.subTy_NoneType_tuple, ↓DL.subTy_bool_tuple, ↓DL.subTy_int_tuple, ↓DL.subTy_str_tuple, ↓DL.subTy_tuple_tuple, ↓DL.subTy_list_tuple, ↓DL.subTy_dict_tuple, ↓DL.isiM_dict, ↓DL.subTy_NoneType_dict, ↓DL.subTy_bool_dict, ↓DL.subTy_int_dict, ↓DL.subTy_str_dict, ↓DL.subTy_tuple_dict, ↓DL.subTy_list_dict, ↓DL.subTy_dict_dict, ↓DL.isNon_tup, ↓DL.isNon_lst, ↓DL.isNon_stup, ↓DL.isNon_slst, ↓DL.isNon_str, ↓DL.isNon_int, ↓DL.isNon_bl, ↓DL.isNon_ref, ↓DL.isNon_dK, ↓DL.isNon_dT, $[$ts:term],*]); (repeat ((with_reducible refine DL.seq_r (fun R hR => ?_)); simp only [DL.dFz, ↓DL.onL_e1, DL.dTold, DL.dMethX, DL.dMakeX, DL.dForK, DL.dLcV, ↓DL.dMax2_e1, ↓DL.dMaxL_e1, DL.keyV_str, DL.cutD_tail, eq_self, Int.reduceEq, List.nil_append, List.cons_append, DL.ofs_eq, String.reduceEq, DL.inD_cons, DL.inD_nil, Bool.or_false, Bool.or_true, Bool.false_or, Bool.true_or, decide_true, decide_false, not_true_eq_false, not_false_eq_true, DL.dPar, ↓DL.kPar_e1, DL.dPar3, ↓DL.kPar3_e1, DL.dGet1, DL.dGet2, DL.dKGet2, DL.dAsg, DL.dVar, DL.dgName, DL.dgLst, DL.dgSub, List.length_cons, List.length_nil, List.set_cons_zero, List.set_cons_succ, DL.dAnd, DL.dOr, DL.dNot, DL.dTest, DL.dTrue, DL.dOp, DL.dCB, DL.dACons, DL.dANil, DL.dInQ, DL.dIxQ, DL.dAug, DL.dC, DL.dRet, DL.dRetF, DL.dRetN, DL.dSl, DL.dPart, DL.dNoPart, DL.dIf, DL.dIfS, DL.dTup, DL.dLstF, DL.dLstO, DL.dDrop, DL.dNever, DL.dNext, DL.dBreak, DL.dCont, DL.dFor, DL.dILst, DL.dITup, DL.dIStr, DL.dIRng1, DL.dIRng2, DL.dIEnum, DL.dIZip, DL.dBM, DL.dBM0, DL.dCall, DL.dFld, DL.dSFld, DL.dSFldI, DL.dMeth, DL.dMake, DL.dRaise, DL.dXf, DL.dEqL, ↓DL.dStrip_e1, ↓DL.onX_e1, DL.dCallX, ↓DL.onI_e1, DL.dAddO, DL.dMulO, ↓DL.kMulO_e1, DL.dLcO, DL.dAndV, DL.dOrV, DL.dNotV, DL.dNeg, DL.dDix, DL.dDin, DL.dDisp, DL.dDispF, DL.dDNew, DL.dLc, DL.dLc2, DL.bind1, DL.dYes, DL.dFrz, List.map_cons, List.map_nil, List.getElem?_cons_succ, List.getElem?_cons_zero, DL.atI_0, DL.atI_1, DL.atI_2, DL.atI_3, DL.atI_4, DL.atI_5, DL.atI_6, DL.atI_7, DL.ixN_0, DL.ixN_1, DL.ixN_2, DL.ixN_3, DL.oset_same, DL.oset_oset, DL.tl_one, DL.tl_ofL, TL.len_tl, DL.atI_nat_, Bool.false_eq_true, Bool.true_eq_false, Bool.not_false, Bool.not_true, if_true, if_false, decide_eq_true_eq, Bool.not_eq_true', Bool.not_eq_true, decide_eq_false_iff_not, Option.isSome_some, Option.isSome_none, List.all_cons, List.all_nil, Bool.and_self, Bool.true_and, Bool.and_true, ↓reduceIte, and_true, true_and, Nat.zero_add, Nat.reduceAdd, Nat.reduceLeDiff, ↓DL.onSome_e1, ↓DL.onL_e1, ↓DL.lstQ_e1, ↓DL.lstQ_e2, ↓DL.seqQ_e1, ↓DL.seqQ_e2, ↓DL.seqQ_e3, ↓DL.seqQ_e4, ↓DL.seqQ_e5, ↓DL.sqlQ_e1, ↓DL.sqlQ_e2, ↓DL.sqlQ_e3, ↓DL.onK_e1, ↓DL.onT_e1, ↓DL.dkQ_e1, ↓DL.dkQ_e2, ↓DL.dtQ_e1, ↓DL.dtQ_e2, ↓DL.findQ_e1, ↓DL.findQ_e2, ↓DL.findQ_e3, ↓DL.dAdd_e1, ↓DL.dAdd_e2, ↓DL.dAdd_e3, ↓DL.dAdd_e4, ↓DL.dAdd_e5, ↓DL.dAdd_e6, ↓DL.dAdd_e7, ↓DL.dI2_e1, ↓DL.dSub_e1, ↓DL.dCmpI_e1, ↓DL.dEq_e1, ↓DL.dEq_e2, ↓DL.dEq_e3, ↓DL.dEq_e4, ↓DL.dEq_e5, ↓DL.dEq_e6, ↓DL.dEq_e7, ↓DL.dEq_e8, ↓DL.dEq_e9, ↓DL.dEq_e10, ↓DL.dEq_e11, ↓DL.dEq_e12, ↓DL.dEq_e13, ↓DL.dEq_e14, ↓DL.dEq_e15, ↓DL.dIsN_e1, DL.isNon_e1, ↓DL.dInS_e1, ↓DL.dIn_e1, ↓DL.dIn_e2, ↓DL.dIn_e3, ↓DL.dIn_e4, ↓DL.dIn_e5, ↓DL.dIn_e6, ↓DL.dInK_e1, ↓DL.dIx_e1, ↓DL.dIx_e2, ↓DL.dIx_e3, ↓DL.dIx_e4, ↓DL.dIx_e5, ↓DL.dIx_e6, ↓DL.kBl_e1, ↓DL.kInt_e1, ↓DL.kTru_e1, ↓DL.kTru_e2, ↓DL.kTru_e3, ↓DL.kTru_e4, ↓DL.kTru_e5, ↓DL.kTru_e6, ↓DL.kTru_e7, ↓DL.kTru_e8, ↓DL.kTru_e9, ↓DL.kRef_e1, ↓DL.kLst_e1, ↓DL.kLst_e2, ↓DL.kTup_e1, ↓DL.kTup_e2, ↓DL.kStr_e1, ↓DL.kRng1_e1, ↓DL.kRng2_e1, ↓DL.kEnum_e1, ↓DL.kEnum_e2, ↓DL.kZip_e1, ↓DL.frzC_e1, ↓DL.frzC_e2, ↓DL.frzC_e3, ↓DL.dSlR_e1, ↓DL.dSlR_e2, ↓DL.dSlR_e3, ↓DL.dSlR_e4, ↓DL.dSlR_e5, ↓DL.dLen_e1, ↓DL.dLen_e2, ↓DL.dLen_e3, ↓DL.dLen_e4, ↓DL.dLen_e5, ↓DL.dLen_e6, ↓DL.dInt_e1, ↓DL.dInt_e2, ↓DL.dInt_e3, ↓DL.dStrI_e1, ↓DL.dIsi_e1, DL.tyName_e1, DL.tyName_e2, DL.tyName_e3, DL.tyName_e4, DL.tyName_e5, DL.tyName_e6, DL.tyName_e7, DL.tyName_e8, DL.tyName_e9, DL.tyName_e10, ↓DL.dApp_e1, ↓DL.dJoin_e1, ↓DL.dSplit_e1, ↓DL.dgNil_e1, ↓DL.dgCons_e1, ↓DL.dgTup_e1, ↓DL.dSetL_e1, ↓DL.dSetD_e1, ↓DL.dSetD_e2, ↓DL.dSetD_e3, ↓DL.dIAdd_e1, ↓DL.dIAdd_e2, ↓DL.dISub_e1, ↓DL.apart_e1, ↓DL.dUpd_e1, ↓DL.dMulS_e1, ↓DL.dInL_e1, ↓DL.endLc_e1, ↓DL.endLc_e2, DL.bindN_e1, DL.setAll_e1, DL.setAll_e2, DL.mTy_e1, DL.mTy_e2, DL.mTy_e3, DL.mTy_e4, DL.strsOf_e1, DL.strsOf_e2, DL.keyD_e1, DL.keyD_e2, DL.keysD_e1, DL.keysD_e2, ↓DL.forW_e1, ↓DL.forW_e2, ↓DL.lcW_e1, ↓DL.lcW_e2, ↓DL.lcG_e1, ↓DL.lcG_e2, ↓DL.lc2W_e1, ↓DL.lc2W_e2, ↓DL.dPairs_e1, ↓DL.dPairs_e2, DL.kvsOf_e1, DL.kvsOf_e2, DL.slot_e1, DL.slot_e2, DL.dwipe_e1, DL.dwipe_e2, DL.enumD_e1, DL.enumD_e2, DL.zipD_e1, DL.dstart_e1, DL.dstart_e2, DL.dstart_e3, DL.flatD_e1, DL.flatD_e2, DL.flatD_e3, DL.flatD_e4, DL.eqF_e1, DL.eqF_e2, DL.eqF_e3, DL.eqF_e4, DL.eqF_e5, DL.eqF_e6, ↓DL.dTupOf_e1, ↓DL.dTupOf_e2, ↓DL.dTupOf_e3, ↓DL.dListOf_e1, ↓DL.dMin2_e1, ↓DL.dExt_e1, ↓DL.dMulL_e1, ↓DL.dIsD_e1, ↓DL.dIsD_e2, ↓DL.dIsD_e3, ↓DL.dSortD_e1, ↓DL.kStr1_e1, DL.klook_e1, ↓DL.dVar_n0, ↓DL.dgName_n0, ↓DL.obind_n0, ↓DL.oslot_n0, ↓DL.dVar_n1, ↓DL.dgName_n1, ↓DL.obind_n1, ↓DL.oslot_n1, ↓DL.dVar_n2, ↓DL.dgName_n2, ↓DL.obind_n2, ↓DL.oslot_n2, ↓DL.dVar_n3, ↓DL.dgName_n3, ↓DL.obind_n3, ↓DL.oslot_n3, ↓DL.dVar_n4, ↓DL.dgName_n4, ↓DL.obind_n4, ↓DL.oslot_n4, ↓DL.dVar_n5, ↓DL.dgName_n5, ↓DL.obind_n5, ↓DL.oslot_n5, ↓DL.dVar_n6, ↓DL.dgName_n6, ↓DL.obind_n6, ↓DL.oslot_n6, ↓DL.dVar_n7, ↓DL.dgName_n7, ↓DL.obind_n7, ↓DL.oslot_n7, ↓DL.dVar_n8, ↓DL.dgName_n8, ↓DL.obind_n8, ↓DL.oslot_n8, ↓DL.dVar_n9, ↓DL.dgName_n9, ↓DL.obind_n9, ↓DL.oslot_n9, ↓DL.dVar_n10, ↓DL.dgName_n10, ↓DL.obind_n10, ↓DL.oslot_n10, ↓DL.dVar_n11, ↓DL.dgName_n11, ↓DL.obind_n11, ↓DL.oslot_n11, ↓DL.dVar_n12, ↓DL.dgName_n12, ↓DL.obind_n12, ↓DL.oslot_n12, ↓DL.dVar_n13, ↓DL.dgName_n13, ↓DL.obind_n13, ↓DL.oslot_n13, ↓DL.dVar_n14, ↓DL.dgName_n14, ↓DL.obind_n14, ↓DL.oslot_n14, ↓DL.dVar_n15, ↓DL.dgName_n15, ↓DL.obind_n15, ↓DL.oslot_n15, ↓DL.dVar_n16, ↓DL.dgName_n16, ↓DL.obind_n16, ↓DL.oslot_n16, ↓DL.dVar_n17, ↓DL.dgName_n17, ↓DL.obind_n17, ↓DL.oslot_n17, ↓DL.dVar_n18, ↓DL.dgName_n18, ↓DL.obind_n18, ↓DL.oslot_n18, ↓DL.dVar_n19, ↓DL.dgName_n19, ↓DL.obind_n19, ↓DL.oslot_n19, ↓DL.dVar_n20, ↓DL.dgName_n20, ↓DL.obind_n20, ↓DL.oslot_n20, ↓DL.dVar_n21, ↓DL.dgName_n21, ↓DL.obind_n21, ↓DL.oslot_n21, ↓DL.dVar_n22, ↓DL.dgName_n22, ↓DL.obind_n22, ↓DL.oslot_n22, ↓DL.dVar_n23, ↓DL.dgName_n23, ↓DL.obind_n23, ↓DL.oslot_n23, ↓DL.dVar_n24, ↓DL.dgName_n24, ↓DL.obind_n24, ↓DL.oslot_n24, ↓DL.dVar_n25, ↓DL.dgName_n25, ↓DL.obind_n25, ↓DL.oslot_n25, ↓DL.dVar_n26, ↓DL.dgName_n26, ↓DL.obind_n26, ↓DL.oslot_n26, ↓DL.dVar_n27, ↓DL.dgName_n27, ↓DL.obind_n27, ↓DL.oslot_n27, ↓DL.dVar_n28, ↓DL.dgName_n28, ↓DL.obind_n28, ↓DL.oslot_n28, ↓DL.dVar_n29, ↓DL.dgName_n29, ↓DL.obind_n29, ↓DL.oslot_n29, ↓DL.isiM_int, ↓DL.subTy_NoneType_int, ↓DL.subTy_bool_int, ↓DL.subTy_int_int, ↓DL.subTy_str_int, ↓DL.subTy_tuple_int, ↓DL.subTy_list_int, ↓DL.subTy_dict_int, ↓DL.isiM_str, ↓DL.subTy_NoneType_str, ↓DL.subTy_bool_str, ↓DL.subTy_int_str, ↓DL.subTy_str_str, ↓DL.subTy_tuple_str, ↓DL.subTy_list_str, ↓DL.subTy_dict_str, ↓DL.isiM_bool, ↓DL.subTy_NoneType_bool, ↓DL.subTy_bool_bool, ↓DL.subTy_int_bool, ↓DL.subTy_str_bool, ↓DL.subTy_tuple_bool, ↓DL.subTy_list_bool, ↓DL.subTy_dict_bool, ↓DL.isiM_list, ↓DL.subTy_NoneType_list, ↓DL.subTy_bool_list, ↓DL.subTy_int_list, ↓DL.subTy_str_list, ↓DL.subTy_tuple_list, ↓DL.subTy_list_list, ↓DL.subTy_dict_list, ↓DL.isiM_tuple, ↓DL.subTy_NoneType_tuple, ↓DL.subTy_bool_tuple, ↓DL.subTy_int_tuple, ↓DL.subTy_str_tuple, ↓DL.subTy_tuple_tuple, ↓DL.subTy_list_tuple, ↓DL.subTy_dict_tuple, ↓DL.isiM_dict, ↓DL.subTy_NoneType_dict, ↓DL.subTy_bool_dict, ↓DL.subTy_int_dict, ↓DL.subTy_str_dict, ↓DL.subTy_tuple_dict, ↓DL.subTy_list_dict, ↓DL.subTy_dict_dict, ↓DL.isNon_tup, ↓DL.isNon_lst, ↓DL.isNon_stup, ↓DL.isNon_slst, ↓DL.isNon_str, ↓DL.isNon_int, ↓DL.isNon_bl, ↓DL.isNon_ref, ↓DL.isNon_dK, ↓DL.isNon_dT, $[$ts:term],*]; subst hR)); (try simp only [DL.dFz, ↓DL.onL_e1, DL.dTold, DL.dMethX, DL.dMakeX, DL.dForK, DL.dLcV, ↓DL.dMax2_e1, ↓DL.dMaxL_e1, DL.keyV_str, DL.cutD_tail, eq_self, Int.reduceEq, List.nil_append, List.cons_append, DL.ofs_eq, String.reduceEq, DL.inD_cons, DL.inD_nil, Bool.or_false, Bool.or_true, Bool.false_or, Bool.true_or, decide_true, decide_false, not_true_eq_false, not_false_eq_true, DL.dPar, ↓DL.kPar_e1, DL.dPar3, ↓DL.kPar3_e1, DL.dGet1, DL.dGet2, DL.dKGet2, DL.dAsg, DL.dVar, DL.dgName, DL.dgLst, DL.dgSub, List.length_cons, List.length_nil, List.set_cons_zero, List.set_cons_succ, DL.dAnd, DL.dOr, DL.dNot, DL.dTest, DL.dTrue, DL.dOp, DL.dCB, DL.dACons, DL.dANil, DL.dInQ, DL.dIxQ, DL.dAug, DL.dC, DL.dRet, DL.dRetF, DL.dRetN, DL.dSl, DL.dPart, DL.dNoPart, DL.dIf, DL.dIfS, DL.dTup, DL.dLstF, DL.dLstO, DL.dDrop, DL.dNever, DL.dNext, DL.dBreak, DL.dCont, DL.dFor, DL.dILst, DL.dITup, DL.dIStr, DL.dIRng1, DL.dIRng2, DL.dIEnum, DL.dIZip, DL.dBM, DL.dBM0, DL.dCall, DL.dFld, DL.dSFld, DL.dSFldI, DL.dMeth, DL.dMake, DL.dRaise, DL.dXf, DL.dEqL, ↓DL.dStrip_e1, ↓DL.onX_e1, DL.dCallX, ↓DL.onI_e1, DL.dAddO, DL.dMulO, ↓DL.kMulO_e1, DL.dLcO, DL.dAndV, DL.dOrV, DL.dNotV, DL.dNeg, DL.dDix, DL.dDin, DL.dDisp, DL.dDispF, DL.dDNew, DL.dLc, DL.dLc2, DL.bind1, DL.dYes, DL.dFrz, List.map_cons, List.map_nil, List.getElem?_cons_succ, List.getElem?_cons_zero, DL.atI_0, DL.atI_1, DL.atI_2, DL.atI_3, DL.atI_4, DL.atI_5, DL.atI_6, DL.atI_7, DL.ixN_0, DL.ixN_1, DL.ixN_2, DL.ixN_3, DL.oset_same, DL.oset_oset, DL.tl_one, DL.tl_ofL, TL.len_tl, DL.atI_nat_, Bool.false_eq_true, Bool.true_eq_false, Bool.not_false, Bool.not_true, if_true, if_false, decide_eq_true_eq, Bool.not_eq_true', Bool.not_eq_true, decide_eq_false_iff_not, Option.isSome_some, Option.isSome_none, List.all_cons, List.all_nil, Bool.and_self, Bool.true_and, Bool.and_true, ↓reduceIte, and_true, true_and, Nat.zero_add, Nat.reduceAdd, Nat.reduceLeDiff, ↓DL.onSome_e1, ↓DL.onL_e1, ↓DL.lstQ_e1, ↓DL.lstQ_e2, ↓DL.seqQ_e1, ↓DL.seqQ_e2, ↓DL.seqQ_e3, ↓DL.seqQ_e4, ↓DL.seqQ_e5, ↓DL.sqlQ_e1, ↓DL.sqlQ_e2, ↓DL.sqlQ_e3, ↓DL.onK_e1, ↓DL.onT_e1, ↓DL.dkQ_e1, ↓DL.dkQ_e2, ↓DL.dtQ_e1, ↓DL.dtQ_e2, ↓DL.findQ_e1, ↓DL.findQ_e2, ↓DL.findQ_e3, ↓DL.dAdd_e1, ↓DL.dAdd_e2, ↓DL.dAdd_e3, ↓DL.dAdd_e4, ↓DL.dAdd_e5, ↓DL.dAdd_e6, ↓DL.dAdd_e7, ↓DL.dI2_e1, ↓DL.dSub_e1, ↓DL.dCmpI_e1, ↓DL.dEq_e1, ↓DL.dEq_e2, ↓DL.dEq_e3, ↓DL.dEq_e4, ↓DL.dEq_e5, ↓DL.dEq_e6, ↓DL.dEq_e7, ↓DL.dEq_e8, ↓DL.dEq_e9, ↓DL.dEq_e10, ↓DL.dEq_e11, ↓DL.dEq_e12, ↓DL.dEq_e13, ↓DL.dEq_e14, ↓DL.dEq_e15, ↓DL.dIsN_e1, DL.isNon_e1, ↓DL.dInS_e1, ↓DL.dIn_e1, ↓DL.dIn_e2, ↓DL.dIn_e3, ↓DL.dIn_e4, ↓DL.dIn_e5, ↓DL.dIn_e6, ↓DL.dInK_e1, ↓DL.dIx_e1, ↓DL.dIx_e2, ↓DL.dIx_e3, ↓DL.dIx_e4, ↓DL.dIx_e5, ↓DL.dIx_e6, ↓DL.kBl_e1, ↓DL.kInt_e1, ↓DL.kTru_e1, ↓DL.kTru_e2, ↓DL.kTru_e3, ↓DL.kTru_e4, ↓DL.kTru_e5, ↓DL.kTru_e6, ↓DL.kTru_e7, ↓DL.kTru_e8, ↓DL.kTru_e9, ↓DL.kRef_e1, ↓DL.kLst_e1, ↓DL.kLst_e2, ↓DL.kTup_e1, ↓DL.kTup_e2, ↓DL.kStr_e1, ↓DL.kRng1_e1, ↓DL.kRng2_e1, ↓DL.kEnum_e1, ↓DL.kEnum_e2, ↓DL.kZip_e1, ↓DL.frzC_e1, ↓DL.frzC_e2, ↓DL.frzC_e3, ↓DL.dSlR_e1, ↓DL.dSlR_e2, ↓DL.dSlR_e3, ↓DL.dSlR_e4, ↓DL.dSlR_e5, ↓DL.dLen_e1, ↓DL.dLen_e2, ↓DL.dLen_e3, ↓DL.dLen_e4, ↓DL.dLen_e5, ↓DL.dLen_e6, ↓DL.dInt_e1, ↓DL.dInt_e2, ↓DL.dInt_e3, ↓DL.dStrI_e1, ↓DL.dIsi_e1, DL.tyName_e1, DL.tyName_e2, DL.tyName_e3, DL.tyName_e4, DL.tyName_e5, DL.tyName_e6, DL.tyName_e7, DL.tyName_e8, DL.tyName_e9, DL.tyName_e10, ↓DL.dApp_e1, ↓DL.dJoin_e1, ↓DL.dSplit_e1, ↓DL.dgNil_e1, ↓DL.dgCons_e1, ↓DL.dgTup_e1, ↓DL.dSetL_e1, ↓DL.dSetD_e1, ↓DL.dSetD_e2, ↓DL.dSetD_e3, ↓DL.dIAdd_e1, ↓DL.dIAdd_e2, ↓DL.dISub_e1, ↓DL.apart_e1, ↓DL.dUpd_e1, ↓DL.dMulS_e1, ↓DL.dInL_e1, ↓DL.endLc_e1, ↓DL.endLc_e2, DL.bindN_e1, DL.setAll_e1, DL.setAll_e2, DL.mTy_e1, DL.mTy_e2, DL.mTy_e3, DL.mTy_e4, DL.strsOf_e1, DL.strsOf_e2, DL.keyD_e1, DL.keyD_e2, DL.keysD_e1, DL.keysD_e2, ↓DL.forW_e1, ↓DL.forW_e2, ↓DL.lcW_e1, ↓DL.lcW_e2, ↓DL.lcG_e1, ↓DL.lcG_e2, ↓DL.lc2W_e1, ↓DL.lc2W_e2, ↓DL.dPairs_e1, ↓DL.dPairs_e2, DL.kvsOf_e1, DL.kvsOf_e2, DL.slot_e1, DL.slot_e2, DL.dwipe_e1, DL.dwipe_e2, DL.enumD_e1, DL.enumD_e2, DL.zipD_e1, DL.dstart_e1, DL.dstart_e2, DL.dstart_e3, DL.flatD_e1, DL.flatD_e2, DL.flatD_e3, DL.flatD_e4, DL.eqF_e1, DL.eqF_e2, DL.eqF_e3, DL.eqF_e4, DL.eqF_e5, DL.eqF_e6, ↓DL.dTupOf_e1, ↓DL.dTupOf_e2, ↓DL.dTupOf_e3, ↓DL.dListOf_e1, ↓DL.dMin2_e1, ↓DL.dExt_e1, ↓DL.dMulL_e1, ↓DL.dIsD_e1, ↓DL.dIsD_e2, ↓DL.dIsD_e3, ↓DL.dSortD_e1, ↓DL.kStr1_e1, DL.klook_e1, ↓DL.dVar_n0, ↓DL.dgName_n0, ↓DL.obind_n0, ↓DL.oslot_n0, ↓DL.dVar_n1, ↓DL.dgName_n1, ↓DL.obind_n1, ↓DL.oslot_n1, ↓DL.dVar_n2, ↓DL.dgName_n2, ↓DL.obind_n2, ↓DL.oslot_n2, ↓DL.dVar_n3, ↓DL.dgName_n3, ↓DL.obind_n3, ↓DL.oslot_n3, ↓DL.dVar_n4, ↓DL.dgName_n4, ↓DL.obind_n4, ↓DL.oslot_n4, ↓DL.dVar_n5, ↓DL.dgName_n5, ↓DL.obind_n5, ↓DL.oslot_n5, ↓DL.dVar_n6, ↓DL.dgName_n6, ↓DL.obind_n6, ↓DL.oslot_n6, ↓DL.dVar_n7, ↓DL.dgName_n7, ↓DL.obind_n7, ↓DL.oslot_n7, ↓DL.dVar_n8, ↓DL.dgName_n8, ↓DL.obind_n8, ↓DL.oslot_n8, ↓DL.dVar_n9, ↓DL.dgName_n9, ↓DL.obind_n9, ↓DL.oslot_n9, ↓DL.dVar_n10, ↓DL.dgName_n10, ↓DL.obind_n10, ↓DL.oslot_n10, ↓DL.dVar_n11, ↓DL.dgName_n11, ↓DL.obind_n11, ↓DL.oslot_n11, ↓DL.dVar_n12, ↓DL.dgName_n12, ↓DL.obind_n12, ↓DL.oslot_n12, ↓DL.dVar_n13, ↓DL.dgName_n13, ↓DL.obind_n13, ↓DL.oslot_n13, ↓DL.dVar_n14, ↓DL.dgName_n14, ↓DL.obind_n14, ↓DL.oslot_n14, ↓DL.dVar_n15, ↓DL.dgName_n15, ↓DL.obind_n15, ↓DL.oslot_n15, ↓DL.dVar_n16, ↓DL.dgName_n16, ↓DL.obind_n16, ↓DL.oslot_n16, ↓DL.dVar_n17, ↓DL.dgName_n17, ↓DL.obind_n17, ↓DL.oslot_n17, ↓DL.dVar_n18, ↓DL.dgName_n18, ↓DL.obind_n18, ↓DL.oslot_n18, ↓DL.dVar_n19, ↓DL.dgName_n19, ↓DL.obind_n19, ↓DL.oslot_n19, ↓DL.dVar_n20, ↓DL.dgName_n20, ↓DL.obind_n20, ↓DL.oslot_n20, ↓DL.dVar_n21, ↓DL.dgName_n21, ↓DL.obind_n21, ↓DL.oslot_n21, ↓DL.dVar_n22, ↓DL.dgName_n22, ↓DL.obind_n22, ↓DL.oslot_n22, ↓DL.dVar_n23, ↓DL.dgName_n23, ↓DL.obind_n23, ↓DL.oslot_n23, ↓DL.dVar_n24, ↓DL.dgName_n24, ↓DL.obind_n24, ↓DL.oslot_n24, ↓DL.dVar_n25, ↓DL.dgName_n25, ↓DL.obind_n25, ↓DL.oslot_n25, ↓DL.dVar_n26, ↓DL.dgName_n26, ↓DL.obind_n26, ↓DL.oslot_n26, ↓DL.dVar_n27, ↓DL.dgName_n27, ↓DL.obind_n27, ↓DL.oslot_n27, ↓DL.dVar_n28, ↓DL.dgName_n28, ↓DL.obind_n28, ↓DL.oslot_n28, ↓DL.dVar_n29, ↓DL.dgName_n29, ↓DL.obind_n29, ↓DL.oslot_n29, ↓DL.isiM_int, ↓DL.subTy_NoneType_int, ↓DL.subTy_bool_int, ↓DL.subTy_int_int, ↓DL.subTy_str_int, ↓DL.subTy_tuple_int, ↓DL.subTy_list_int, ↓DL.subTy_dict_int, ↓DL.isiM_str, ↓DL.subTy_NoneType_str, ↓DL.subTy_bool_str, ↓DL.subTy_int_str, ↓DL.subTy_str_str, ↓DL.subTy_tuple_str, ↓DL.subTy_list_str, ↓DL.subTy_dict_str, ↓DL.isiM_bool, ↓DL.subTy_NoneType_bool, ↓DL.subTy_bool_bool, ↓DL.subTy_int_bool, ↓DL.subTy_str_bool, ↓DL.subTy_tuple_bool, ↓DL.subTy_list_bool, ↓DL.subTy_dict_bool, ↓DL.isiM_list, ↓DL.subTy_NoneType_list, ↓DL.subTy_bool_list, ↓DL.subTy_int_list, ↓DL.subTy_str_list, ↓DL.subTy_tuple_list, ↓DL.subTy_list_list, ↓DL.subTy_dict_list, ↓DL.isiM_tuple, ↓DL.subTy_NoneType_tuple, ↓DL.subTy_bool_tuple, ↓DL.subTy_int_tuple, ↓DL.subTy_str_tuple, ↓DL.subTy_tuple_tuple, ↓DL.subTy_list_tuple, ↓DL.subTy_dict_tuple, ↓DL.isiM_dict, ↓DL.subTy_NoneType_dict, ↓DL.subTy_bool_dict, ↓DL.subTy_int_dict, ↓DL.subTy_str_dict, ↓DL.subTy_tuple_dict, ↓DL.subTy_list_dict, ↓DL.subTy_dict_dict, ↓DL.isNon_tup, ↓DL.isNon_lst, ↓DL.isNon_stup, ↓DL.isNon_slst, ↓DL.isNon_str, ↓DL.isNon_int, ↓DL.isNon_bl, ↓DL.isNon_ref, ↓DL.isNon_dK, ↓DL.isNon_dT, $[$ts:term],*])))))
local macro_rules | `(tactic| walk_at "ev") => `(tactic| ((try simp only [DL.dFz, ↓DL.onL_e1, DL.dTold, DL.dMethX, DL.dMakeX, DL.dForK, DL.dLcV, ↓DL.dMax2_e1, ↓DL.dMaxL_e1, DL.keyV_str, DL.cutD_tail, eq_self, Int.reduceEq, List.nil_append, List.cons_append, DL.ofs_eq, String.reduceEq, DL.inD_cons, DL.inD_nil, Bool.or_false, Bool.or_true, Bool.false_or, Bool.true_or, decide_true, decide_false, not_true_eq_false, not_false_eq_true, DL.dPar, ↓DL.kPar_e1, DL.dPar3, ↓DL.kPar3_e1, DL.dGet1, DL.dGet2, DL.dKGet2, DL.dAsg, DL.dVar, DL.dgName, DL.dgLst, DL.dgSub, List.length_cons, List.length_nil, List.set_cons_zero, List.set_cons_succ, DL.dAnd, DL.dOr, DL.dNot, DL.dTest, DL.dTrue, DL.dOp, DL.dCB, DL.dACons, DL.dANil, DL.dInQ, DL.dIxQ, DL.dAug, DL.dC, DL.dRet, DL.dRetF, DL.dRetN, DL.dSl, DL.dPart, DL.dNoPart, DL.dIf, DL.dIfS, DL.dTup, DL.dLstF, DL.dLstO, DL.dDrop, DL.dNever, DL.dNext, DL.dBreak, DL.dCont, DL.dFor, DL.dILst, DL.dITup, DL.dIStr, DL.dIRng1, DL.dIRng2, DL.dIEnum, DL.dIZip, DL.dBM, DL.dBM0, DL.dCall, DL.dFld, DL.dSFld, DL.dSFldI, DL.dMeth, DL.dMake, DL.dRaise, DL.dXf, DL.dEqL, ↓DL.dStrip_e1, ↓DL.onX_e1, DL.dCallX, ↓DL.onI_e1, DL.dAddO, DL.dMulO, ↓DL.kMulO_e1, DL.dLcO, DL.dAndV, DL.dOrV, DL.dNotV, DL.dNeg, DL.dDix, DL.dDin, DL.dDisp, DL.dDispF, DL.dDNew, DL.dLc, DL.dLc2, DL.bind1, DL.dYes, DL.dFrz, List.map_cons, List.map_nil, List.getElem?_cons_succ, List.getElem?_cons_zero, DL.atI_0, DL.atI_1, DL.atI_2, DL.atI_3, DL.atI_4, DL.atI_5, DL.atI_6, DL.atI_7, DL.ixN_0, DL.ixN_1, DL.ixN_2, DL.ixN_3, DL.oset_same, DL.oset_oset, DL.tl_one, DL.tl_ofL, TL.len_tl, DL.atI_nat_, Bool.false_eq_true, Bool.true_eq_false, Bool.not_false, Bool.not_true, if_true, if_false, decide_eq_true_eq, Bool.not_eq_true', Bool.not_eq_true, decide_eq_false_iff_not, Option.isSome_some, Option.isSome_none, List.all_cons, List.all_nil, Bool.and_self, Bool.true_and, Bool.and_true, ↓reduceIte, and_true, true_and, Nat.zero_add, Nat.reduceAdd, Nat.reduceLeDiff, ↓DL.onSome_e1, ↓DL.onL_e1, ↓DL.lstQ_e1, ↓DL.lstQ_e2, ↓DL.seqQ_e1, ↓DL.seqQ_e2, ↓DL.seqQ_e3, ↓DL.seqQ_e4, ↓DL.seqQ_e5, ↓DL.sqlQ_e1, ↓DL.sqlQ_e2, ↓DL.sqlQ_e3, ↓DL.onK_e1, ↓DL.onT_e1, ↓DL.dkQ_e1, ↓DL.dkQ_e2, ↓DL.dtQ_e1, ↓DL.dtQ_e2, ↓DL.findQ_e1, ↓DL.findQ_e2, ↓DL.findQ_e3, ↓DL.dAdd_e1, ↓DL.dAdd_e2, ↓DL.dAdd_e3, ↓DL.dAdd_e4, ↓DL.dAdd_e5, ↓DL.dAdd_e6, ↓DL.dAdd_e7, ↓DL.dI2_e1, ↓DL.dSub_e1, ↓DL.dCmpI_e1, ↓DL.dEq_e1, ↓DL.dEq_e2, ↓DL.dEq_e3, ↓DL.dEq_e4, ↓DL.dEq_e5, ↓DL.dEq_e6, ↓DL.dEq_e7, ↓DL.dEq_e8, ↓DL.dEq_e9, ↓DL.dEq_e10, ↓DL.dEq_e11, ↓DL.dEq_e12, ↓DL.dEq_e13, ↓DL.dEq_e14, ↓DL.dEq_e15, ↓DL.dIsN_e1, DL.isNon_e1, ↓DL.dInS_e1, ↓DL.dIn_e1, ↓DL.dIn_e2, ↓DL.dIn_e3, ↓DL.dIn_e4, ↓DL.dIn_e5, ↓DL.dIn_e6, ↓DL.dInK_e1, ↓DL.dIx_e1, ↓DL.dIx_e2, ↓DL.dIx_e3, ↓DL.dIx_e4, ↓DL.dIx_e5, ↓DL.dIx_e6, ↓DL.kBl_e1, ↓DL.kInt_e1, ↓DL.kTru_e1, ↓DL.kTru_e2, ↓DL.kTru_e3, ↓DL.kTru_e4, ↓DL.kTru_e5, ↓DL.kTru_e6, ↓DL.kTru_e7, ↓DL.kTru_e8, ↓DL.kTru_e9, ↓DL.kRef_e1, ↓DL.kLst_e1, ↓DL.kLst_e2, ↓DL.kTup_e1, ↓DL.kTup_e2, ↓DL.kStr_e1, ↓DL.kRng1_e1, ↓DL.kRng2_e1, ↓DL.kEnum_e1, ↓DL.kEnum_e2, ↓DL.kZip_e1, ↓DL.frzC_e1, ↓DL.frzC_e2, ↓DL.frzC_e3, ↓DL.dSlR_e1, ↓DL.dSlR_e2, ↓DL.dSlR_e3, ↓DL.dSlR_e4, ↓DL.dSlR_e5, ↓DL.dLen_e1, ↓DL.dLen_e2, ↓DL.dLen_e3, ↓DL.dLen_e4, ↓DL.dLen_e5, ↓DL.dLen_e6, ↓DL.dInt_e1, ↓DL.dInt_e2, ↓DL.dInt_e3, ↓DL.dStrI_e1, ↓DL.dIsi_e1, DL.tyName_e1, DL.tyName_e2, DL.tyName_e3, DL.tyName_e4, DL.tyName_e5, DL.tyName_e6, DL.tyName_e7, DL.tyName_e8, DL.tyName_e9, DL.tyName_e10, ↓DL.dApp_e1, ↓DL.dJoin_e1, ↓DL.dSplit_e1, ↓DL.dgNil_e1, ↓DL.dgCons_e1, ↓DL.dgTup_e1, ↓DL.dSetL_e1, ↓DL.dSetD_e1, ↓DL.dSetD_e2, ↓DL.dSetD_e3, ↓DL.dIAdd_e1, ↓DL.dIAdd_e2, ↓DL.dISub_e1, ↓DL.apart_e1, ↓DL.dUpd_e1, ↓DL.dMulS_e1, ↓DL.dInL_e1, ↓DL.endLc_e1, ↓DL.endLc_e2, DL.bindN_e1, DL.setAll_e1, DL.setAll_e2, DL.mTy_e1, DL.mTy_e2, DL.mTy_e3, DL.mTy_e4, DL.strsOf_e1, DL.strsOf_e2, DL.keyD_e1, DL.keyD_e2, DL.keysD_e1, DL.keysD_e2, ↓DL.forW_e1, ↓DL.forW_e2, ↓DL.lcW_e1, ↓DL.lcW_e2, ↓DL.lcG_e1, ↓DL.lcG_e2, ↓DL.lc2W_e1, ↓DL.lc2W_e2, ↓DL.dPairs_e1, ↓DL.dPairs_e2, DL.kvsOf_e1, DL.kvsOf_e2, DL.slot_e1, DL.slot_e2, DL.dwipe_e1, DL.dwipe_e2, DL.enumD_e1, DL.enumD_e2, DL.zipD_e1, DL.dstart_e1, DL.dstart_e2, DL.dstart_e3, DL.flatD_e1, DL.flatD_e2, DL.flatD_e3, DL.flatD_e4, DL.eqF_e1, DL.eqF_e2, DL.eqF_e3, DL.eqF_e4, DL.eqF_e5, DL.eqF_e6, ↓DL.dTupOf_e1, ↓DL.dTupOf_e2, ↓DL.dTupOf_e3, ↓DL.dListOf_e1, ↓DL.dMin2_e1, ↓DL.dExt_e1, ↓DL.dMulL_e1, ↓DL.dIsD_e1, ↓DL.dIsD_e2, ↓DL.dIsD_e3, ↓DL.dSortD_e1, ↓DL.kStr1_e1, DL.klook_e1, ↓DL.dVar_n0, ↓DL.dgName_n0, ↓DL.obind_n0, ↓DL.oslot_n0, ↓DL.dVar_n1, ↓DL.dgName_n1, ↓DL.obind_n1, ↓DL.oslot_n1, ↓DL.dVar_n2, ↓DL.dgName_n2, ↓DL.obind_n2, ↓DL.oslot_n2, ↓DL.dVar_n3, ↓DL.dgName_n3, ↓DL.obind_n3, ↓DL.oslot_n3, ↓DL.dVar_n4, ↓DL.dgName_n4, ↓DL.obind_n4, ↓DL.oslot_n4, ↓DL.dVar_n5, ↓DL.dgName_n5, ↓DL.obind_n5, ↓DL.oslot_n5, ↓DL.dVar_n6, ↓DL.dgName_n6, ↓DL.obind_n6, ↓DL.oslot_n6, ↓DL.dVar_n7, ↓DL.dgName_n7, ↓DL.obind_n7, ↓DL.oslot_n7, ↓DL.dVar_n8, ↓DL.dgName_n8, ↓DL.obind_n8, ↓DL.oslot_n8, ↓DL.dVar_n9, ↓DL.dgName_n9, ↓DL.obind_n9, ↓DL.oslot_n9, ↓DL.dVar_n10, ↓DL.dgName_n10, ↓DL.obind_n10, ↓DL.oslot_n10, ↓DL.dVar_n11, ↓DL.dgName_n11, ↓DL.obind_n11, ↓DL.oslot_n11, ↓DL.dVar_n12, ↓DL.dgName_n12, ↓DL.obind_n12, ↓DL.oslot_n12, ↓DL.dVar_n13, ↓DL.dgName_n13, ↓DL.obind_n13, ↓DL.oslot_n13, ↓DL.dVar_n14, ↓DL.dgName_n14, ↓DL.obind_n14, ↓DL.oslot_n14, ↓DL.dVar_n15, ↓DL.dgName_n15, ↓DL.obind_n15, ↓DL.oslot_n15, ↓DL.dVar_n16, ↓DL.dgName_n16, ↓DL.obind_n16, ↓DL.oslot_n16, ↓DL.dVar_n17, ↓DL.dgName_n17, ↓DL.obind_n17, ↓DL.oslot_n17, ↓DL.dVar_n18, ↓DL.dgName_n18, ↓DL.obind_n18, ↓DL.oslot_n18, ↓DL.dVar_n19, ↓DL.dgName_n19, ↓DL.obind_n19, ↓DL.oslot_n19, ↓DL.dVar_n20, ↓DL.dgName_n20, ↓DL.obind_n20, ↓DL.oslot_n20, ↓DL.dVar_n21, ↓DL.dgName_n21, ↓DL.obind_n21, ↓DL.oslot_n21, ↓DL.dVar_n22, ↓DL.dgName_n22, ↓DL.obind_n22, ↓DL.oslot_n22, ↓DL.dVar_n23, ↓DL.dgName_n23, ↓DL.obind_n23, ↓DL.oslot_n23, ↓DL.dVar_n24, ↓DL.dgName_n24, ↓DL.obind_n24, ↓DL.oslot_n24, ↓DL.dVar_n25, ↓DL.dgName_n25, ↓DL.obind_n25, ↓DL.oslot_n25, ↓DL.dVar_n26, ↓DL.dgName_n26, ↓DL.obind_n26, ↓DL.oslot_n26, ↓DL.dVar_n27, ↓DL.dgName_n27, ↓DL.obind_n27, ↓DL.oslot_n27, ↓DL.dVar_n28, ↓DL.dgName_n28, ↓DL.obind_n28, ↓DL.oslot_n28, ↓DL.dVar_n29, ↓DL.dgName_n29, ↓DL.obind_n29, ↓DL.oslot_n29, ↓DL.isiM_int, ↓DL.subTy_NoneType_int, ↓DL.subTy_bool_int, ↓DL.subTy_int_int, ↓DL.subTy_str_int, ↓DL.subTy_tuple_int, ↓DL.subTy_list_int, ↓DL.subTy_dict_int, ↓DL.isiM_str, ↓DL.subTy_NoneType_str, ↓DL.subTy_bool_str, ↓DL.subTy_int_str, ↓DL.subTy_str_str, ↓DL.subTy_tuple_str, ↓DL.subTy_list_str, ↓DL.subTy_dict_str, ↓DL.isiM_bool, ↓DL.subTy_NoneType_bool, ↓DL.subTy_bool_bool, ↓DL.subTy_int_bool, ↓DL.subTy_str_bool, ↓DL.subTy_tuple_bool, ↓DL.subTy_list_bool, ↓DL.subTy_dict_bool, ↓DL.isiM_list, ↓DL.subTy_NoneType_list, ↓DL.subTy_bool_list, ↓DL.subTy_int_list, ↓DL.subTy_str_list, ↓DL.subTy_tuple_list, ↓DL.subTy_list_list, ↓DL.subTy_dict_list, ↓DL.isiM_tuple, ↓DL.subTy_NoneType_tuple, ↓DL.subTy_bool_tuple, ↓DL.subTy_int_tuple, ↓DL.subTy_str_tuple, ↓DL.subTy_tuple_tuple, ↓DL.subTy_list_tuple, ↓DL.subTy_dict_tuple, ↓DL.isiM_dict, ↓DL.subTy_NoneType_dict, ↓DL.subTy_bool_dict, ↓DL.subTy_int_dict, ↓DL.subTy_str_dict, ↓DL.subTy_tuple_dict, ↓DL.subTy_list_dict, ↓DL.subTy_dict_dict, ↓DL.isNon_tup, ↓DL.isNon_lst, ↓DL.isNon_stup, ↓DL.isNon_slst, ↓DL.isNon_str, ↓DL.isNon_int, ↓DL.isNon_bl, ↓DL.isNon_ref, ↓DL.isNon_dK, ↓DL.isNon_dT]); (repeat ((with_reducible refine DL.seq_r (fun R hR => ?_)); simp only [DL.dFz, ↓DL.onL_e1, DL.dTold, DL.dMethX, DL.dMakeX, DL.dForK, DL.dLcV, ↓DL.dMax2_e1, ↓DL.dMaxL_e1, DL.keyV_str, DL.cutD_tail, eq_self, Int.reduceEq, List.nil_append, List.cons_append, DL.ofs_eq, String.reduceEq, DL.inD_cons, DL.inD_nil, Bool.or_false, Bool.or_true, Bool.false_or, Bool.true_or, decide_true, decide_false, not_true_eq_false, not_false_eq_true, DL.dPar, ↓DL.kPar_e1, DL.dPar3, ↓DL.kPar3_e1, DL.dGet1, DL.dGet2, DL.dKGet2, DL.dAsg, DL.dVar, DL.dgName, DL.dgLst, DL.dgSub, List.length_cons, List.length_nil, List.set_cons_zero, List.set_cons_succ, DL.dAnd, DL.dOr, DL.dNot, DL.dTest, DL.dTrue, DL.dOp, DL.dCB, DL.dACons, DL.dANil, DL.dInQ, DL.dIxQ, DL.dAug, DL.dC, DL.dRet, DL.dRetF, DL.dRetN, DL.dSl, DL.dPart, DL.dNoPart, DL.dIf, DL.dIfS, DL.dTup, DL.dLstF, DL.dLstO, DL.dDrop, DL.dNever, DL.dNext, DL.dBreak, DL.dCont, DL.dFor, DL.dILst, DL.dITup, DL.dIStr, DL.dIRng1, DL.dIRng2, DL.dIEnum, DL.dIZip, DL.dBM, DL.dBM0, DL.dCall, DL.dFld, DL.dSFld, DL.dSFldI, DL.dMeth, DL.dMake, DL.dRaise, DL.dXf, DL.dEqL, ↓DL.dStrip_e1, ↓DL.onX_e1, DL.dCallX, ↓DL.onI_e1, DL.dAddO, DL.dMulO, ↓DL.kMulO_e1, DL.dLcO, DL.dAndV, DL.dOrV, DL.dNotV, DL.dNeg, DL.dDix, DL.dDin, DL.dDisp, DL.dDispF, DL.dDNew, DL.dLc, DL.dLc2, DL.bind1, DL.dYes, DL.dFrz, List.map_cons, List.map_nil, List.getElem?_cons_succ, List.getElem?_cons_zero, DL.atI_0, DL.atI_1, DL.atI_2, DL.atI_3, DL.atI_4, DL.atI_5, DL.atI_6, DL.atI_7, DL.ixN_0, DL.ixN_1, DL.ixN_2, DL.ixN_3, DL.oset_same, DL.oset_oset, DL.tl_one, DL.tl_ofL, TL.len_tl, DL.atI_nat_, Bool.false_eq_true, Bool.true_eq_false, Bool.not_false, Bool.not_true, if_true, if_false, decide_eq_true_eq, Bool.not_eq_true', Bool.not_eq_true, decide_eq_false_iff_not, Option.isSome_some, Option.isSome_none, List.all_cons, List.all_nil, Bool.and_self, Bool.true_and, Bool.and_true, ↓reduceIte, and_true, true_and, Nat.zero_add, Nat.reduceAdd, Nat.reduceLeDiff, ↓DL.onSome_e1, ↓DL.onL_e1, ↓DL.lstQ_e1, ↓DL.lstQ_e2, ↓DL.seqQ_e1, ↓DL.seqQ_e2, ↓DL.seqQ_e3, ↓DL.seqQ_e4, ↓DL.seqQ_e5, ↓DL.sqlQ_e1, ↓DL.sqlQ_e2, ↓DL.sqlQ_e3, ↓DL.onK_e1, ↓DL.onT_e1, ↓DL.dkQ_e1, ↓DL.dkQ_e2, ↓DL.dtQ_e1, ↓DL.dtQ_e2, ↓DL.findQ_e1, ↓DL.findQ_e2, ↓DL.findQ_e3, ↓DL.dAdd_e1, ↓DL.dAdd_e2, ↓DL.dAdd_e3, ↓DL.dAdd_e4, ↓DL.dAdd_e5, ↓DL.dAdd_e6, ↓DL.dAdd_e7, ↓DL.dI2_e1, ↓DL.dSub_e1, ↓DL.dCmpI_e1, ↓DL.dEq_e1, ↓DL.dEq_e2, ↓DL.dEq_e3, ↓DL.dEq_e4, ↓DL.dEq_e5, ↓DL.dEq_e6, ↓DL.dEq_e7, ↓DL.dEq_e8, ↓DL.dEq_e9, ↓DL.dEq_e10, ↓DL.dEq_e11, ↓DL.dEq_e12, ↓DL.dEq_e13, ↓DL.dEq_e14, ↓DL.dEq_e15, ↓DL.dIsN_e1, DL.isNon_e1, ↓DL.dInS_e1, ↓DL.dIn_e1, ↓DL.dIn_e2, ↓DL.dIn_e3, ↓DL.dIn_e4, ↓DL.dIn_e5, ↓DL.dIn_e6, ↓DL.dInK_e1, ↓DL.dIx_e1, ↓DL.dIx_e2, ↓DL.dIx_e3, ↓DL.dIx_e4, ↓DL.dIx_e5, ↓DL.dIx_e6, ↓DL.kBl_e1, ↓DL.kInt_e1, ↓DL.kTru_e1, ↓DL.kTru_e2, ↓DL.kTru_e3, ↓DL.kTru_e4, ↓DL.kTru_e5, ↓DL.kTru_e6, ↓DL.kTru_e7, ↓DL.kTru_e8, ↓DL.kTru_e9, ↓DL.kRef_e1, ↓DL.kLst_e1, ↓DL.kLst_e2, ↓DL.kTup_e1, ↓DL.kTup_e2, ↓DL.kStr_e1, ↓DL.kRng1_e1, ↓DL.kRng2_e1, ↓DL.kEnum_e1, ↓DL.kEnum_e2, ↓DL.kZip_e1, ↓DL.frzC_e1, ↓DL.frzC_e2, ↓DL.frzC_e3, ↓DL.dSlR_e1, ↓DL.dSlR_e2, ↓DL.dSlR_e3, ↓DL.dSlR_e4, ↓DL.dSlR_e5, ↓DL.dLen_e1, ↓DL.dLen_e2, ↓DL.dLen_e3, ↓DL.dLen_e4, ↓DL.dLen_e5, ↓DL.dLen_e6, ↓DL.dInt_e1, ↓DL.dInt_e2, ↓DL.dInt_e3, ↓DL.dStrI_e1, ↓DL.dIsi_e1, DL.tyName_e1, DL.tyName_e2, DL.tyName_e3, DL.tyName_e4, DL.tyName_e5, DL.tyName_e6, DL.tyName_e7, DL.tyName_e8, DL.tyName_e9, DL.tyName_e10, ↓DL.dApp_e1, ↓DL.dJoin_e1, ↓DL.dSplit_e1, ↓DL.dgNil_e1, ↓DL.dgCons_e1, ↓DL.dgTup_e1, ↓DL.dSetL_e1, ↓DL.dSetD_e1, ↓DL.dSetD_e2, ↓DL.dSetD_e3, ↓DL.dIAdd_e1, ↓DL.dIAdd_e2, ↓DL.dISub_e1, ↓DL.apart_e1, ↓DL.dUpd_e1, ↓DL.dMulS_e1, ↓DL.dInL_e1, ↓DL.endLc_e1, ↓DL.endLc_e2, DL.bindN_e1, DL.setAll_e1, DL.setAll_e2, DL.mTy_e1, DL.mTy_e2, DL.mTy_e3, DL.mTy_e4, DL.strsOf_e1, DL.strsOf_e2, DL.keyD_e1, DL.keyD_e2, DL.keysD_e1, DL.keysD_e2, ↓DL.forW_e1, ↓DL.forW_e2, ↓DL.lcW_e1, ↓DL.lcW_e2, ↓DL.lcG_e1, ↓DL.lcG_e2, ↓DL.lc2W_e1, ↓DL.lc2W_e2, ↓DL.dPairs_e1, ↓DL.dPairs_e2, DL.kvsOf_e1, DL.kvsOf_e2, DL.slot_e1, DL.slot_e2, DL.dwipe_e1, DL.dwipe_e2, DL.enumD_e1, DL.enumD_e2, DL.zipD_e1, DL.dstart_e1, DL.dstart_e2, DL.dstart_e3, DL.flatD_e1, DL.flatD_e2, DL.flatD_e3, DL.flatD_e4, DL.eqF_e1, DL.eqF_e2, DL.eqF_e3, DL.eqF_e4, DL.eqF_e5, DL.eqF_e6, ↓DL.dTupOf_e1, ↓DL.dTupOf_e2, ↓DL.dTupOf_e3, ↓DL.dListOf_e1, ↓DL.dMin2_e1, ↓DL.dExt_e1, ↓DL.dMulL_e1, ↓DL.dIsD_e1, ↓DL.dIsD_e2, ↓DL.dIsD_e3, ↓DL.dSortD_e1, ↓DL.kStr1_e1, DL.klook_e1, ↓DL.dVar_n0, ↓DL.dgName_n0, ↓DL.obind_n0, ↓DL.oslot_n0, ↓DL.dVar_n1, ↓DL.dgName_n1, ↓DL.obind_n1, ↓DL.oslot_n1, ↓DL.dVar_n2, ↓DL.dgName_n2, ↓DL.obind_n2, ↓DL.oslot_n2, ↓DL.dVar_n3, ↓DL.dgName_n3, ↓DL.obind_n3, ↓DL.oslot_n3, ↓DL.dVar_n4, ↓DL.dgName_n4, ↓DL.obind_n4, ↓DL.oslot_n4, ↓DL.dVar_n5, ↓DL.dgName_n5, ↓DL.obind_n5, ↓DL.oslot_n5, ↓DL.dVar_n6, ↓DL.dgName_n6, ↓DL.obind_n6, ↓DL.oslot_n6, ↓DL.dVar_n7, ↓DL.dgName_n7, ↓DL.obind_n7, ↓DL.oslot_n7, ↓DL.dVar_n8, ↓DL.dgName_n8, ↓DL.obind_n8, ↓DL.oslot_n8, ↓DL.dVar_n9, ↓DL.dgName_n9, ↓DL.obind_n9, ↓DL.oslot_n9, ↓DL.dVar_n10, ↓DL.dgName_n10, ↓DL.obind_n10, ↓DL.oslot_n10, ↓DL.dVar_n11, ↓DL.dgName_n11, ↓DL.obind_n11, ↓DL.oslot_n11, ↓DL.dVar_n12, ↓DL.dgName_n12, ↓DL.obind_n12, ↓DL.oslot_n12, ↓DL.dVar_n13, ↓DL.dgName_n13, ↓DL.obind_n13, ↓DL.oslot_n13, ↓DL.dVar_n14, ↓DL.dgName_n14, ↓DL.obind_n14, ↓DL.oslot_n14, ↓DL.dVar_n15, ↓DL.dgName_n15, ↓DL.obind_n15, ↓DL.oslot_n15, ↓DL.dVar_n16, ↓DL.dgName_n16, ↓DL.obind_n16, ↓DL.oslot_n16, ↓DL.dVar_n17, ↓DL.dgName_n17, ↓DL.obind_n17, ↓DL.oslot_n17, ↓DL.dVar_n18, ↓DL.dgName_n18, ↓DL.obind_n18, ↓DL.oslot_n18, ↓DL.dVar_n19, ↓DL.dgName_n19, ↓DL.obind_n19, ↓DL.oslot_n19, ↓DL.dVar_n20, ↓DL.dgName_n20, ↓DL.obind_n20, ↓DL.oslot_n20, ↓DL.dVar_n21, ↓DL.dgName_n21, ↓DL.obind_n21, ↓DL.oslot_n21, ↓DL.dVar_n22, ↓DL.dgName_n22, ↓DL.obind_n22, ↓DL.oslot_n22, ↓DL.dVar_n23, ↓DL.dgName_n23, ↓DL.obind_n23, ↓DL.oslot_n23, ↓DL.dVar_n24, ↓DL.dgName_n24, ↓DL.obind_n24, ↓DL.oslot_n24, ↓DL.dVar_n25, ↓DL.dgName_n25, ↓DL.obind_n25, ↓DL.oslot_n25, ↓DL.dVar_n26, ↓DL.dgName_n26, ↓DL.obind_n26, ↓DL.oslot_n26, ↓DL.dVar_n27, ↓DL.dgName_n27, ↓DL.obind_n27, ↓DL.oslot_n27, ↓DL.dVar_n28, ↓DL.dgName_n28, ↓DL.obind_n28, ↓DL.oslot_n28, ↓DL.dVar_n29, ↓DL.dgName_n29, ↓DL.obind_n29, ↓DL.oslot_n29, ↓DL.isiM_int, ↓DL.subTy_NoneType_int, ↓DL.subTy_bool_int, ↓DL.subTy_int_int, ↓DL.subTy_str_int, ↓DL.subTy_tuple_int, ↓DL.subTy_list_int, ↓DL.subTy_dict_int, ↓DL.isiM_str, ↓DL.subTy_NoneType_str, ↓DL.subTy_bool_str, ↓DL.subTy_int_str, ↓DL.subTy_str_str, ↓DL.subTy_tuple_str, ↓DL.subTy_list_str, ↓DL.subTy_dict_str, ↓DL.isiM_bool, ↓DL.subTy_NoneType_bool, ↓DL.subTy_bool_bool, ↓DL.subTy_int_bool, ↓DL.subTy_str_bool, ↓DL.subTy_tuple_bool, ↓DL.subTy_list_bool, ↓DL.subTy_dict_bool, ↓DL.isiM_list, ↓DL.subTy_NoneType_list, ↓DL.subTy_bool_list, ↓DL.subTy_int_list, ↓DL.subTy_str_list, ↓DL.subTy_tuple_list, ↓DL.subTy_list_list, ↓DL.subTy_dict_list, ↓DL.isiM_tuple, ↓DL.subTy_NoneType_tuple, ↓DL.subTy_bool_tuple, ↓DL.subTy_int_tuple, ↓DL.subTy_str_tuple, ↓DL.subTy_tuple_tuple, ↓DL.subTy_list_tuple, ↓DL.subTy_dict_tuple, ↓DL.isiM_dict, ↓DL.subTy_NoneType_dict, ↓DL.subTy_bool_dict, ↓DL.subTy_int_dict, ↓DL.subTy_str_dict, ↓DL.subTy_tuple_dict, ↓DL.subTy_list_dict, ↓DL.subTy_dict_dict, ↓DL.isNon_tup, ↓DL.isNon_lst, ↓DL.isNon_stup, ↓DL.isNon_slst, ↓DL.isNon_str, ↓DL.isNon_int, ↓DL.isNon_bl, ↓DL.isNon_ref, ↓DL.isNon_dK, ↓DL.isNon_dT]; subst hR)); (try simp only [DL.dFz, ↓DL.onL_e1, DL.dTold, DL.dMethX, DL.dMakeX, DL.dForK, DL.dLcV, ↓DL.dMax2_e1, ↓DL.dMaxL_e1, DL.keyV_str, DL.cutD_tail, eq_self, Int.reduceEq, List.nil_append, List.cons_append, DL.ofs_eq, String.reduceEq, DL.inD_cons, DL.inD_nil, Bool.or_false, Bool.or_true, Bool.false_or, Bool.true_or, decide_true, decide_false, not_true_eq_false, not_false_eq_true, DL.dPar, ↓DL.kPar_e1, DL.dPar3, ↓DL.kPar3_e1, DL.dGet1, DL.dGet2, DL.dKGet2, DL.dAsg, DL.dVar, DL.dgName, DL.dgLst, DL.dgSub, List.length_cons, List.length_nil, List.set_cons_zero, List.set_cons_succ, DL.dAnd, DL.dOr, DL.dNot, DL.dTest, DL.dTrue, DL.dOp, DL.dCB, DL.dACons, DL.dANil, DL.dInQ, DL.dIxQ, DL.dAug, DL.dC, DL.dRet, DL.dRetF, DL.dRetN, DL.dSl, DL.dPart, DL.dNoPart, DL.dIf, DL.dIfS, DL.dTup, DL.dLstF, DL.dLstO, DL.dDrop, DL.dNever, DL.dNext, DL.dBreak, DL.dCont, DL.dFor, DL.dILst, DL.dITup, DL.dIStr, DL.dIRng1, DL.dIRng2, DL.dIEnum, DL.dIZip, DL.dBM, DL.dBM0, DL.dCall, DL.dFld, DL.dSFld, DL.dSFldI, DL.dMeth, DL.dMake, DL.dRaise, DL.dXf, DL.dEqL, ↓DL.dStrip_e1, ↓DL.onX_e1, DL.dCallX, ↓DL.onI_e1, DL.dAddO, DL.dMulO, ↓DL.kMulO_e1, DL.dLcO, DL.dAndV, DL.dOrV, DL.dNotV, DL.dNeg, DL.dDix, DL.dDin, DL.dDisp, DL.dDispF, DL.dDNew, DL.dLc, DL.dLc2, DL.bind1, DL.dYes, DL.dFrz, List.map_cons, List.map_nil, List.getElem?_cons_succ, List.getElem?_cons_zero, DL.atI_0, DL.atI_1, DL.atI_2, DL.atI_3, DL.atI_4, DL.atI_5, DL.atI_6, DL.atI_7, DL.ixN_0, DL.ixN_1, DL.ixN_2, DL.ixN_3, DL.oset_same, DL.oset_oset, DL.tl_one, DL.tl_ofL, TL.len_tl, DL.atI_nat_, Bool.false_eq_true, Bool.true_eq_false, Bool.not_false, Bool.not_true, if_true, if_false, decide_eq_true_eq, Bool.not_eq_true', Bool.not_eq_true, decide_eq_false_iff_not, Option.isSome_some, Option.isSome_none, List.all_cons, List.all_nil, Bool.and_self, Bool.true_and, Bool.and_true, ↓reduceIte, and_true, true_and, Nat.zero_add, Nat.reduceAdd, Nat.reduceLeDiff, ↓DL.onSome_e1, ↓DL.onL_e1, ↓DL.lstQ_e1, ↓DL.lstQ_e2, ↓DL.seqQ_e1, ↓DL.seqQ_e2, ↓DL.seqQ_e3, ↓DL.seqQ_e4, ↓DL.seqQ_e5, ↓DL.sqlQ_e1, ↓DL.sqlQ_e2, ↓DL.sqlQ_e3, ↓DL.onK_e1, ↓DL.onT_e1, ↓DL.dkQ_e1, ↓DL.dkQ_e2, ↓DL.dtQ_e1, ↓DL.dtQ_e2, ↓DL.findQ_e1, ↓DL.findQ_e2, ↓DL.findQ_e3, ↓DL.dAdd_e1, ↓DL.dAdd_e2, ↓DL.dAdd_e3, ↓DL.dAdd_e4, ↓DL.dAdd_e5, ↓DL.dAdd_e6, ↓DL.dAdd_e7, ↓DL.dI2_e1, ↓DL.dSub_e1, ↓DL.dCmpI_e1, ↓DL.dEq_e1, ↓DL.dEq_e2, ↓DL.dEq_e3, ↓DL.dEq_e4, ↓DL.dEq_e5, ↓DL.dEq_e6, ↓DL.dEq_e7, ↓DL.dEq_e8, ↓DL.dEq_e9, ↓DL.dEq_e10, ↓DL.dEq_e11, ↓DL.dEq_e12, ↓DL.dEq_e13, ↓DL.dEq_e14, ↓DL.dEq_e15, ↓DL.dIsN_e1, DL.isNon_e1, ↓DL.dInS_e1, ↓DL.dIn_e1, ↓DL.dIn_e2, ↓DL.dIn_e3, ↓DL.dIn_e4, ↓DL.dIn_e5, ↓DL.dIn_e6, ↓DL.dInK_e1, ↓DL.dIx_e1, ↓DL.dIx_e2, ↓DL.dIx_e3, ↓DL.dIx_e4, ↓DL.dIx_e5, ↓DL.dIx_e6, ↓DL.kBl_e1, ↓DL.kInt_e1, ↓DL.kTru_e1, ↓DL.kTru_e2, ↓DL.kTru_e3, ↓DL.kTru_e4, ↓DL.kTru_e5, ↓DL.kTru_e6, ↓DL.kTru_e7, ↓DL.kTru_e8, ↓DL.kTru_e9, ↓DL.kRef_e1, ↓DL.kLst_e1, ↓DL.kLst_e2, ↓DL.kTup_e1, ↓DL.kTup_e2, ↓DL.kStr_e1, ↓DL.kRng1_e1, ↓DL.kRng2_e1, ↓DL.kEnum_e1, ↓DL.kEnum_e2, ↓DL.kZip_e1, ↓DL.frzC_e1, ↓DL.frzC_e2, ↓DL.frzC_e3, ↓DL.dSlR_e1, ↓DL.dSlR_e2, ↓DL.dSlR_e3, ↓DL.dSlR_e4, ↓DL.dSlR_e5, ↓DL.dLen_e1, ↓DL.dLen_e2, ↓DL.dLen_e3, ↓DL.dLen_e4, ↓DL.dLen_e5, ↓DL.dLen_e6, ↓DL.dInt_e1, ↓DL.dInt_e2, ↓DL.dInt_e3, ↓DL.dStrI_e1, ↓DL.dIsi_e1, DL.tyName_e1, DL.tyName_e2, DL.tyName_e3, DL.tyName_e4, DL.tyName_e5, DL.tyName_e6, DL.tyName_e7, DL.tyName_e8, DL.tyName_e9, DL.tyName_e10, ↓DL.dApp_e1, ↓DL.dJoin_e1, ↓DL.dSplit_e1, ↓DL.dgNil_e1, ↓DL.dgCons_e1, ↓DL.dgTup_e1, ↓DL.dSetL_e1, ↓DL.dSetD_e1, ↓DL.dSetD_e2, ↓DL.dSetD_e3, ↓DL.dIAdd_e1, ↓DL.dIAdd_e2, ↓DL.dISub_e1, ↓DL.apart_e1, ↓DL.dUpd_e1, ↓DL.dMulS_e1, ↓DL.dInL_e1, ↓DL.endLc_e1, ↓DL.endLc_e2, DL.bindN_e1, DL.setAll_e1, DL.setAll_e2, DL.mTy_e1, DL.mTy_e2, DL.mTy_e3, DL.mTy_e4, DL.strsOf_e1, DL.strsOf_e2, DL.keyD_e1, DL.keyD_e2, DL.keysD_e1, DL.keysD_e2, ↓DL.forW_e1, ↓DL.forW_e2, ↓DL.lcW_e1, ↓DL.lcW_e2, ↓DL.lcG_e1, ↓DL.lcG_e2, ↓DL.lc2W_e1, ↓DL.lc2W_e2, ↓DL.dPairs_e1, ↓DL.dPairs_e2, DL.kvsOf_e1, DL.kvsOf_e2, DL.slot_e1, DL.slot_e2, DL.dwipe_e1, DL.dwipe_e2, DL.enumD_e1, DL.enumD_e2, DL.zipD_e1, DL.dstart_e1, DL.dstart_e2, DL.dstart_e3, DL.flatD_e1, DL.flatD_e2, DL.flatD_e3, DL.flatD_e4, DL.eqF_e1, DL.eqF_e2, DL.eqF_e3, DL.eqF_e4, DL.eqF_e5, DL.eqF_e6, ↓DL.dTupOf_e1, ↓DL.dTupOf_e2, ↓DL.dTupOf_e3, ↓DL.dListOf_e1, ↓DL.dMin2_e1, ↓DL.dExt_e1, ↓DL.dMulL_e1, ↓DL.dIsD_e1, ↓DL.dIsD_e2, ↓DL.dIsD_e3, ↓DL.dSortD_e1, ↓DL.kStr1_e1, DL.klook_e1, ↓DL.dVar_n0, ↓DL.dgName_n0, ↓DL.obind_n0, ↓DL.oslot_n0, ↓DL.dVar_n1, ↓DL.dgName_n1, ↓DL.obind_n1, ↓DL.oslot_n1, ↓DL.dVar_n2, ↓DL.dgName_n2, ↓DL.obind_n2, ↓DL.oslot_n2, ↓DL.dVar_n3, ↓DL.dgName_n3, ↓DL.obind_n3, ↓DL.oslot_n3, ↓DL.dVar_n4, ↓DL.dgName_n4, ↓DL.obind_n4, ↓DL.oslot_n4, ↓DL.dVar_n5, ↓DL.dgName_n5, ↓DL.obind_n5, ↓DL.oslot_n5, ↓DL.dVar_n6, ↓DL.dgName_n6, ↓DL.obind_n6, ↓DL.oslot_n6, ↓DL.dVar_n7, ↓DL.dgName_n7, ↓DL.obind_n7, ↓DL.oslot_n7, ↓DL.dVar_n8, ↓DL.dgName_n8, ↓DL.obind_n8, ↓DL.oslot_n8, ↓DL.dVar_n9, ↓DL.dgName_n9, ↓DL.obind_n9, ↓DL.oslot_n9, ↓DL.dVar_n10, ↓DL.dgName_n10, ↓DL.obind_n10, ↓DL.oslot_n10, ↓DL.dVar_n11, ↓DL.dgName_n11, ↓DL.obind_n11, ↓DL.oslot_n11, ↓DL.dVar_n12, ↓DL.dgName_n12, ↓DL.obind_n12, ↓DL.oslot_n12, ↓DL.dVar_n13, ↓DL.dgName_n13, ↓DL.obind_n13, ↓DL.oslot_n13, ↓DL.dVar_n14, ↓DL.dgName_n14, ↓DL.obind_n14, ↓DL.oslot_n14, ↓DL.dVar_n15, ↓DL.dgName_n15, ↓DL.obind_n15, ↓DL.oslot_n15, ↓DL.dVar_n16, ↓DL.dgName_n16, ↓DL.obind_n16, ↓DL.oslot_n16, ↓DL.dVar_n17, ↓DL.dgName_n17, ↓DL.obind_n17, ↓DL.oslot_n17, ↓DL.dVar_n18, ↓DL.dgName_n18, ↓DL.obind_n18, ↓DL.oslot_n18, ↓DL.dVar_n19, ↓DL.dgName_n19, ↓DL.obind_n19, ↓DL.oslot_n19, ↓DL.dVar_n20, ↓DL.dgName_n20, ↓DL.obind_n20, ↓DL.oslot_n20, ↓DL.dVar_n21, ↓DL.dgName_n21, ↓DL.obind_n21, ↓DL.oslot_n21, ↓DL.dVar_n22, ↓DL.dgName_n22, ↓DL.obind_n22, ↓DL.oslot_n22, ↓DL.dVar_n23, ↓DL.dgName_n23, ↓DL.obind_n23, ↓DL.oslot_n23, ↓DL.dVar_n24, ↓DL.dgName_n24, ↓DL.obind_n24, ↓DL.oslot_n24, ↓DL.dVar_n25, ↓DL.dgName_n25, ↓DL.obind_n25, ↓DL.oslot_n25, ↓DL.dVar_n26, ↓DL.dgName_n26, ↓DL.obind_n26, ↓DL.oslot_n26, ↓DL.dVar_n27, ↓DL.dgName_n27, ↓DL.obind_n27, ↓DL.oslot_n27, ↓DL.dVar_n28, ↓DL.dgName_n28, ↓DL.obind_n28, ↓DL.oslot_n28, ↓DL.dVar_n29, ↓DL.dgName_n29, ↓DL.obind_n29, ↓DL.oslot_n29, ↓DL.isiM_int, ↓DL.subTy_NoneType_int, ↓DL.subTy_bool_int, ↓DL.subTy_int_int, ↓DL.subTy_str_int, ↓DL.subTy_tuple_int, ↓DL.subTy_list_int, ↓DL.subTy_dict_int, ↓DL.isiM_str, ↓DL.subTy_NoneType_str, ↓DL.subTy_bool_str, ↓DL.subTy_int_str, ↓DL.subTy_str_str, ↓DL.subTy_tuple_str, ↓DL.subTy_list_str, ↓DL.subTy_dict_str, ↓DL.isiM_bool, ↓DL.subTy_NoneType_bool, ↓DL.subTy_bool_bool, ↓DL.subTy_int_bool, ↓DL.subTy_str_bool, ↓DL.subTy_tuple_bool, ↓DL.subTy_list_bool, ↓DL.subTy_dict_bool, ↓DL.isiM_list, ↓DL.subTy_NoneType_list, ↓DL.subTy_bool_list, ↓DL.subTy_int_list, ↓DL.subTy_str_list, ↓DL.subTy_tuple_list, ↓DL.subTy_list_list, ↓DL.subTy_dict_list, ↓DL.isiM_tuple, ↓DL.subTy_NoneType_tuple, ↓DL.subTy_bool_tuple, ↓DL.subTy_int_tuple, ↓DL.subTy_str_tuple, ↓DL.subTy_tuple_tuple, ↓DL.subTy_list_tuple, ↓DL.subTy_dict_tuple, ↓DL.isiM_dict, ↓DL.subTy_NoneType_dict, ↓DL.subTy_bool_dict, ↓DL.subTy_int_dict, ↓DL.subTy_str_dict, ↓DL.subTy_tuple_dict, ↓DL.subTy_list_dict, ↓DL.subTy_dict_dict, ↓DL.isNon_tup, ↓DL.isNon_lst, ↓DL.isNon_stup, ↓DL.isNon_slst, ↓DL.isNon_str, ↓DL.isNon_int, ↓DL.isNon_bl, ↓DL.isNon_ref, ↓DL.isNon_dK, ↓DL.isNon_dT])))
local macro_rules | `(tactic| walk_at "sz") => `(tactic| first | assumption | omega | exact ⟨by omega, by omega⟩ | exact Or.inl ⟨by omega, by omega⟩ | exact Or.inr ⟨by omega, by omega⟩ | exact ⟨by decide, by decide, by decide⟩ | (refine DL.line_of ?_; (try simp only [len_tl, DL.app_len, List.length_map, List.length_append, List.length_cons, List.length_nil, lit0, lit1, lit2, lit3, lit4, lit5, lit6, lit7, lit8, lit9, lit10, lit11, lit12, lit13, lit14, lit15, lit16, lit17, lit18, lit19, lit20, lit21, lit22, lit23, lit24, lit25, lit26, lit27, lit28, lit29, lit30, lit31, lit32, lit33, lit34, lit35, lit36, lit37, lit38, lit39, lit40, lit41, lit42, lit43, lit44, lit45, lit46, lit47, lit48, lit49, lit50, lit51, lit52, lit53, lit54, lit55, lit56, lit57, lit58, lit59, lit60, lit61, lit62, lit63, lit64, lit65, lit66, lit67]); omega) | (refine DL.lc_line ?_; (try simp only [len_tl, DL.app_len, List.length_map, List.length_append, List.length_cons, List.length_nil, lit0, lit1, lit2, lit3, lit4, lit5, lit6, lit7, lit8, lit9, lit10, lit11, lit12, lit13, lit14, lit15, lit16, lit17, lit18, lit19, lit20, lit21, lit22, lit23, lit24, lit25, lit26, lit27, lit28, lit29, lit30, lit31, lit32, lit33, lit34, lit35, lit36, lit37, lit38, lit39, lit40, lit41, lit42, lit43, lit44, lit45, lit46, lit47, lit48, lit49, lit50, lit51, lit52, lit53, lit54, lit55, lit56, lit57, lit58, lit59, lit60, lit61, lit62, lit63, lit64, lit65, lit66, lit67]); omega) | ((try simp only [len_tl, DL.app_len, List.length_map, List.length_append, List.length_cons, List.length_nil, lit0, lit1, lit2, lit3, lit4, lit5, lit6, lit7, lit8, lit9, lit10, lit11, lit12, lit13, lit14, lit15, lit16, lit17, lit18, lit19, lit20, lit21, lit22, lit23, lit24, lit25, lit26, lit27, lit28, lit29, lit30, lit31, lit32, lit33, lit34, lit35, lit36, lit37, lit38, lit39, lit40, lit41, lit42, lit43, lit44, lit45, lit46, lit47, lit48, lit49, lit50, lit51, lit52, lit53, lit54, lit55, lit56, lit57, lit58, lit59, lit60, lit61, lit62, lit63, lit64, lit65, lit66, lit67]); omega))
local macro_rules | `(tactic| walk_at "go") => `(tactic| ((try (walk_at "ev")); (repeat ((with_reducible refine And.intro ?_ ?_); (walk_at "sz"); (try (walk_at "ev"))))))
def top (i : Nat) : Stmt := PySem.Challenge.pw_wholetongue_k02_no_words.main.body.getD i (.Pass ⟨0, 0, 0, 0⟩)
structure FnAt (K : PySem.W.Frag) (mg : Str → Option Value) (x : Str) (st : Stmt) (ps : List Str) (f : Addr) (fd : FuncData) : Prop where
  fn : Fun K x x st f fd
  bi : Binds K fd ps []
  mg : mg x = some (.ref f)
structure MtAt (K : PySem.W.Frag) (C : Addr) (m qual : Str) (st : Stmt) (ps : List Str) (f : Addr) (fd : FuncData) : Prop where
  fn : Fun K m qual st f fd
  bi : Binds K fd ps []
  mt : Meth K C m f
structure InAt (K : PySem.W.Frag) (C : Addr) (qual : Str) (st : Stmt) (ps : List Str) (f : Addr) (fd : FuncData) : Prop where
  fn : Fun K "__init__" qual st f fd
  bi : Binds K fd ps []
  mkc : Mk K C f
structure ExAt (K : PySem.W.Frag) (C : Addr) (qual : Str) (st : Stmt) (ps : List Str) (f : Addr) (fd : FuncData) : Prop where
  fn : Fun K "__init__" qual st f fd
  bi : Binds K fd ps []
  ic : PySem.W.findIn K (.ref C) "__init__" = some (some (.ref f))
  ti : PySem.W.typeIn K (.ref f) = some (.type "function")
theorem bb_len : bootBuiltins "len" = some (.builtin "len") := by decide +kernel
theorem bb_enumerate : bootBuiltins "enumerate" = some (.type "enumerate") := by decide +kernel
theorem bb_int : bootBuiltins "int" = some (.type "int") := by decide +kernel
theorem bb_isinstance : bootBuiltins "isinstance" = some (.builtin "isinstance") := by decide +kernel
theorem bb_tuple : bootBuiltins "tuple" = some (.type "tuple") := by decide +kernel
theorem bb_list : bootBuiltins "list" = some (.type "list") := by decide +kernel
theorem bb_bool : bootBuiltins "bool" = some (.type "bool") := by decide +kernel
theorem bb_str : bootBuiltins "str" = some (.type "str") := by decide +kernel
theorem bb_range : bootBuiltins "range" = some (.type "range") := by decide +kernel
abbrev s_Fault___init__ : Stmt := inClass (top 2) 0
abbrev N_Fault___init__ : List Str := ["self", "stage", "file", "place", "why"]
theorem sc_Fault___init__ : FnScope N_Fault___init__ ["self", "stage", "file", "place", "why"] (defScope s_Fault___init__) := ⟨rfl, rfl, rfl, by decide +kernel, rfl, by decide +kernel, by decide +kernel⟩
abbrev s_run_of : Stmt := top 14
abbrev N_run_of : List Str := ["row", "at", "signs", "end"]
theorem sc_run_of : FnScope N_run_of ["row", "at", "signs"] (defScope s_run_of) := ⟨rfl, rfl, rfl, by decide +kernel, rfl, by decide +kernel, by decide +kernel⟩
abbrev s_word_at : Stmt := top 15
abbrev N_word_at : List Str := ["row", "at", "sign", "word"]
theorem sc_word_at : FnScope N_word_at ["row", "at"] (defScope s_word_at) := ⟨rfl, rfl, rfl, by decide +kernel, rfl, by decide +kernel, by decide +kernel⟩
abbrev s_words_in : Stmt := top 16
abbrev N_words_in : List Str := ["row", "number", "found", "at", "kind", "word"]
theorem sc_words_in : FnScope N_words_in ["row", "number"] (defScope s_words_in) := ⟨rfl, rfl, rfl, by decide +kernel, rfl, by decide +kernel, by decide +kernel⟩
abbrev s_word_rows : Stmt := top 17
abbrev N_word_rows : List Str := ["text", "at", "row"]
theorem sc_word_rows : FnScope N_word_rows ["text"] (defScope s_word_rows) := ⟨rfl, rfl, rfl, by decide +kernel, rfl, by decide +kernel, by decide +kernel⟩
abbrev s_words_of : Stmt := top 18
abbrev N_words_of : List Str := ["text", "row", "word"]
theorem sc_words_of : FnScope N_words_of ["text"] (defScope s_words_of) := ⟨rfl, rfl, rfl, by decide +kernel, rfl, by decide +kernel, by decide +kernel⟩
abbrev s__law_dice : Stmt := top 20
abbrev N__law_dice : List Str := ["_law_script", "_law_mixed", "_law_cell"]
theorem sc__law_dice : FnScope N__law_dice ["_law_script"] (defScope s__law_dice) := ⟨rfl, rfl, rfl, by decide +kernel, rfl, by decide +kernel, by decide +kernel⟩
abbrev s__law_next : Stmt := top 21
abbrev N__law_next : List Str := ["_law_dice_here", "_law_many", "_law_found", "_law_cell"]
theorem sc__law_next : FnScope N__law_next ["_law_dice_here", "_law_many"] (defScope s__law_next) := ⟨rfl, rfl, rfl, by decide +kernel, rfl, by decide +kernel, by decide +kernel⟩
abbrev s__law_like : Stmt := top 22
abbrev N__law_like : List Str := ["_law_found", "_law_due", "_law_k"]
theorem sc__law_like : FnScope N__law_like ["_law_found", "_law_due"] (defScope s__law_like) := ⟨rfl, rfl, rfl, by decide +kernel, rfl, by decide +kernel, by decide +kernel⟩
abbrev s__law_pick : Stmt := top 23
abbrev N__law_pick : List Str := ["_law_d", "_law_some"]
theorem sc__law_pick : FnScope N__law_pick ["_law_d", "_law_some"] (defScope s__law_pick) := ⟨rfl, rfl, rfl, by decide +kernel, rfl, by decide +kernel, by decide +kernel⟩
abbrev s__law_told : Stmt := top 24
abbrev N__law_told : List Str := ["_law_work", "e", "_law_some"]
theorem sc__law_told : FnScope N__law_told ["_law_work"] (defScope s__law_told) := ⟨rfl, rfl, rfl, by decide +kernel, rfl, by decide +kernel, by decide +kernel⟩
abbrev s__law_scan : Stmt := top 25
abbrev N__law_scan : List Str := ["_law_text", "_law_own", "_law_found", "_law_rows", "_law_k", "_law_row", "_law_at", "_law_word", "_law_signs", "_law_letters", "_law_figures", "_law_good", "_law_kind", "_law_more"]
theorem sc__law_scan : FnScope N__law_scan ["_law_text"] (defScope s__law_scan) := ⟨rfl, rfl, rfl, by decide +kernel, rfl, by decide +kernel, by decide +kernel⟩
abbrev s_law : Stmt := top 26
abbrev N_law : List Str := ["_law_script", "_law_d", "_law_turn", "_law_text", "_law_k", "_law_found", "_law_bad", "_law_due", "_law_some"]
theorem sc_law : FnScope N_law ["_law_script"] (defScope s_law) := ⟨rfl, rfl, rfl, by decide +kernel, rfl, by decide +kernel, by decide +kernel⟩
structure Tx (K : PySem.W.Frag) (w : World) (mg : Str → Option Value) where
  c_Fault : Addr
  cm_Fault : mg "Fault" = some (.ref c_Fault)
  oe_Fault : OexC K c_Fault
  xf_Fault : XfC K c_Fault
  te_Fault : PySem.W.exmOne K (.ref c_Fault) (.ref c_Fault) = some true
  na_Fault_stage : PySem.W.findIn K (.ref c_Fault) "stage" = some none
  na_Fault_file : PySem.W.findIn K (.ref c_Fault) "file" = some none
  na_Fault_place : PySem.W.findIn K (.ref c_Fault) "place" = some none
  na_Fault_why : PySem.W.findIn K (.ref c_Fault) "why" = some none
  c_WholeError : Addr
  cm_WholeError : mg "WholeError" = some (.ref c_WholeError)
  mc_WholeError : Value
  cr_WholeError : ClX.CRead K c_WholeError mc_WholeError
  vi_WholeError : PySem.W.findCls K (.ref c_WholeError) mc_WholeError "__init__" = some (.val (.builtin "ValueError.__init__"))
  f_Fault___init__ : Addr
  d_Fault___init__ : FuncData
  t_Fault___init__ : ExAt K c_Fault "Fault.__init__" s_Fault___init__ ["self", "stage", "file", "place", "why"] f_Fault___init__ d_Fault___init__
  f_run_of : Addr
  d_run_of : FuncData
  t_run_of : FnAt K mg "run_of" s_run_of ["row", "at", "signs"] f_run_of d_run_of
  f_word_at : Addr
  d_word_at : FuncData
  t_word_at : FnAt K mg "word_at" s_word_at ["row", "at"] f_word_at d_word_at
  f_words_in : Addr
  d_words_in : FuncData
  t_words_in : FnAt K mg "words_in" s_words_in ["row", "number"] f_words_in d_words_in
  f_word_rows : Addr
  d_word_rows : FuncData
  t_word_rows : FnAt K mg "word_rows" s_word_rows ["text"] f_word_rows d_word_rows
  f_words_of : Addr
  d_words_of : FuncData
  t_words_of : FnAt K mg "words_of" s_words_of ["text"] f_words_of d_words_of
  f__law_dice : Addr
  d__law_dice : FuncData
  t__law_dice : FnAt K mg "_law_dice" s__law_dice ["_law_script"] f__law_dice d__law_dice
  f__law_next : Addr
  d__law_next : FuncData
  t__law_next : FnAt K mg "_law_next" s__law_next ["_law_dice_here", "_law_many"] f__law_next d__law_next
  f__law_like : Addr
  d__law_like : FuncData
  t__law_like : FnAt K mg "_law_like" s__law_like ["_law_found", "_law_due"] f__law_like d__law_like
  f__law_pick : Addr
  d__law_pick : FuncData
  t__law_pick : FnAt K mg "_law_pick" s__law_pick ["_law_d", "_law_some"] f__law_pick d__law_pick
  f__law_told : Addr
  d__law_told : FuncData
  t__law_told : FnAt K mg "_law_told" s__law_told ["_law_work"] f__law_told d__law_told
  f__law_scan : Addr
  d__law_scan : FuncData
  t__law_scan : FnAt K mg "_law_scan" s__law_scan ["_law_text"] f__law_scan d__law_scan
  f_law : Addr
  d_law : FuncData
  t_law : FnAt K mg "law" s_law ["_law_script"] f_law d_law
  co_law : Addr
  c_tb_law : Addr
  hc_law : d_law.code = .ref co_law
  n_len : mg "len" = none
  n_enumerate : mg "enumerate" = none
  n_int : mg "int" = none
  n_isinstance : mg "isinstance" = none
  n_tuple : mg "tuple" = none
  n_list : mg "list" = none
  n_bool : mg "bool" = none
  n_str : mg "str" = none
  n_range : mg "range" = none
  a_SIGNS : Addr
  m_SIGNS : mg "SIGNS" = some (.ref a_SIGNS)
  k_SIGNS : ∃ (o : Obj) (its : Array Value) (n : Nat), K.lookup a_SIGNS = some o ∧ o.cls = .type "tuple" ∧ o.data = .seq its n ∧ its.size ≤ sizeLine ∧ Vals [V.str "<>", V.str "<=", V.str "(", V.str ")", V.str ",", V.str ".", V.str "=", V.str "<", V.str "+", V.str "-", V.str "*", V.str "/"] its.toList
  z_LETTERS : Tok
  m_LETTERS : mg "LETTERS" = some (Value.str "abcdefghijklmnopqrstuvwxyz" z_LETTERS)
  z_FIGURES : Tok
  m_FIGURES : mg "FIGURES" = some (Value.str "0123456789" z_FIGURES)
  a_OWN : Addr
  m_OWN : mg "OWN" = some (.ref a_OWN)
  k_OWN : ∃ (es : Array DictEntry) (n : Nat), KDict K w a_OWN es n ∧ KeyList es.toList ["use", "const", "keep", "out", "def", "num", "yes", "no", "let", "if", "else", "while", "end", "give", "say", "do", "or", "and", "not", "mod"]
  z_LONG : Tok
  m_LONG : mg "LONG" = some (Value.int 6 z_LONG)
  z_REMARK : Tok
  m_REMARK : mg "REMARK" = some (Value.str "#" z_REMARK)
section
variable {P : Program} {w : World} {K : PySem.W.Frag} {mg : Str → Option Value} {base : Heap}
theorem Tx.r_SIGNS (T : Tx K w mg) (F : Hp) : Rep K F (.ref T.a_SIGNS) (.stup [.str "<>", .str "<=", .str "(", .str ")", .str ",", .str ".", .str "=", .str "<", .str "+", .str "-", .str "*", .str "/"]) := by
  obtain ⟨o, its, n, h⟩ := T.k_SIGNS
  exact .stup (.inr ⟨o, its, n, h⟩) ((.cons (.str _) (.cons (.str _) (.cons (.str _) (.cons (.str _) (.cons (.str _) (.cons (.str _) (.cons (.str _) (.cons (.str _) (.cons (.str _) (.cons (.str _) (.cons (.str _) (.cons (.str _) .nil)))))))))))))
theorem Tx.e_SIGNS (T : Tx K w mg) {XW : DXK} {X : Cx} {pos : Pos} (hK : X.K = K := by rfl) (h : X.mg = mg := by rfl) (hg : Gl X "SIGNS" := by rfl) : DE XW X (.Name "SIGNS" pos) (dC (.stup [.str "<>", .str "<=", .str "(", .str ")", .str ",", .str ".", .str "=", .str "<", .str "+", .str "-", .str "*", .str "/"])) := de_globR (by rw [h]; exact T.m_SIGNS) (by rw [hK]; exact T.r_SIGNS) hg
theorem Tx.e_LETTERS (T : Tx K w mg) {XW : DXK} {X : Cx} {pos : Pos} (h : X.mg = mg := by rfl) (hg : Gl X "LETTERS" := by rfl) : DE XW X (.Name "LETTERS" pos) (dC (.str "abcdefghijklmnopqrstuvwxyz")) := de_globS (by rw [h]; exact T.m_LETTERS) hg
theorem Tx.e_FIGURES (T : Tx K w mg) {XW : DXK} {X : Cx} {pos : Pos} (h : X.mg = mg := by rfl) (hg : Gl X "FIGURES" := by rfl) : DE XW X (.Name "FIGURES" pos) (dC (.str "0123456789")) := de_globS (by rw [h]; exact T.m_FIGURES) hg
theorem Tx.e_OWN (T : Tx K w mg) {XW : DXK} {X : Cx} {pos : Pos} (h : X.mg = mg := by rfl) (hg : Gl X "OWN" := by rfl) : DE XW X (.Name "OWN" pos) (dC (.ref T.a_OWN)) := de_globR (by rw [h]; exact T.m_OWN) (fun _ => .ref _) hg
theorem Tx.in_OWN (T : Tx K w mg) {X : Cx} (hK : X.K = K := by rfl) (hw : X.w = w := by rfl) : OpD X (compareOp .In) (dInL T.a_OWN ["use", "const", "keep", "out", "def", "num", "yes", "no", "let", "if", "else", "while", "end", "give", "say", "do", "or", "and", "not", "mod"]) := by
  obtain ⟨es, n, h1, h2⟩ := T.k_OWN
  subst hK; subst hw
  exact od_inL h1 h2
theorem Tx.e_LONG (T : Tx K w mg) {XW : DXK} {X : Cx} {pos : Pos} (h : X.mg = mg := by rfl) (hg : Gl X "LONG" := by rfl) : DE XW X (.Name "LONG" pos) (dC (.int 6)) := de_globI (by rw [h]; exact T.m_LONG) hg
theorem Tx.e_REMARK (T : Tx K w mg) {XW : DXK} {X : Cx} {pos : Pos} (h : X.mg = mg := by rfl) (hg : Gl X "REMARK" := by rfl) : DE XW X (.Name "REMARK" pos) (dC (.str "#")) := de_globS (by rw [h]; exact T.m_REMARK) hg
def sp_run_of : DSp := fun ds O Q _ => ∃ (z : Str) (a : Nat) (g : Str), ds = [.str z, .int a, .str g] ∧ a ≤ (tl z).length ∧ (tl z).length ≤ 100000 ∧ Q (.str (ofL (spanIn (tl g) ((tl z).drop a)))) O
def sp_word_at : DSp := fun ds O Q _ => ∃ (z : Str) (a : Nat), ds = [.str z, .int a] ∧ a < (tl z).length ∧ (tl z).length ≤ 100000 ∧ Q (.tup [.str (wordL ((tl z).drop a)).1, .str (ofL (wordL ((tl z).drop a)).2)]) O
def sp_words_in (c_Fault : Addr) : DSp := fun ds O Q E => ∃ (z : Str) (n : Int) (ws : List Wd) (o : Option Nat), ds = [.str z, .int n] ∧ (tl z).length ≤ 100000 ∧ ScanO (tl z) 0 ws o ∧ (o = none → Q (.lst (ws.map (encW n))) O) ∧ ∀ e, o = some e → ∀ O', Fr O O' [] → E c_Fault (fltW n e) O'
def sp_word_rows (c_Fault : Addr) : DSp := fun ds O Q E => ∃ (z : Str) (rs : List Str), ds = [.str z] ∧ (tl z).length ≤ 10000000 ∧ Txt.split z (Str.ofString "\n") = rs ∧ (∀ r ∈ rs, (tl r).length ≤ 10000) ∧ rs.length ≤ 1000 ∧ (∀ wss, ScanRows rs wss → Q (.lst (encRows 0 wss)) O) ∧ ∀ i e, BadAt rs i e → ∀ O', Fr O O' [] → E c_Fault (fltW ((i : Int) + 1) e) O'
def sp_words_of (c_Fault : Addr) : DSp := fun ds O Q E => ∃ (z : Str) (rs : List Str), ds = [.str z] ∧ (tl z).length ≤ 10000000 ∧ Txt.split z (Str.ofString "\n") = rs ∧ (∀ r ∈ rs, (tl r).length ≤ 10000) ∧ rs.length ≤ 1000 ∧ (∀ wss, ScanRows rs wss → ∀ p, O p = none → Q (.ref p) (oset O p (.lst (encAll 0 wss)))) ∧ ∀ i e, BadAt rs i e → ∀ O', Fr O O' [] → E c_Fault (fltW ((i : Int) + 1) e) O'
def sp__law_dice : DSp := fun ds O Q _ => ∃ (ns : List Int), ds = [.slst (ns.map DV.int)] ∧ ns.length ≤ 63 ∧ ∀ p c, O p = none → Dice c → Q (.ref p) (oset O p c)
def sp__law_next : DSp := fun ds O Q _ => ∃ (a : Addr) (m : Int) (c : Cell), ds = [.ref a, .int m] ∧ O a = some c ∧ Dice c ∧ 0 < m ∧ m < 1073741824 ∧ ∀ r c', 0 ≤ r → r < m → Dice c' → Q (.int r) (oset O a c')
def sp__law_pick : DSp := fun ds O Q _ => ∃ (a : Addr) (d : DV) (c : Cell) (xs : List DV), ds = [.ref a, d] ∧ O a = some c ∧ Dice c ∧ seqOf O d = some xs ∧ (∀ c', seqOf (oset O a c') d = some xs) ∧ 0 < xs.length ∧ xs.length < 1073741824 ∧ ∀ x ∈ xs, ∀ c', Dice c' → Q x (oset O a c')
theorem span_while (G : Str) {s0 s1 s2 s3 s4 s5 s6 s9 sa sb sc : Option DV} {D : DEnds} {O : Own} (c : Nat) (x y : List Nat) (hl : x.length + y.length ≤ 2000) (hx : x.head? = some c) (hk : ∀ m, D.nx [s0, s1, s2, s3, s4, s5, s6, some (.str (ofL (x ++ (if c ∈ tl G then spanIn (tl G) y else [])))), some (.str G), s9, sa, sb, sc, some m] O) :
    dWhile (dAnd (dTest (dOp (dIn false) (dOp dIx (dVar 7) (dC (DV.int 0))) (dVar 8))) (dAnd (dTest (dOp (dEq true) (dVar 13) (dC (DV.str (Str.ofString ""))))) (dTest (dOp (dIn false) (dOp dIx (dVar 13) (dC (DV.int 0))) (dVar 8))))) (dPar 7 13 (dACons (dOp dAdd (dVar 7) (dOp dIx (dVar 13) (dC (DV.int 0)))) (dACons (dSl dSlR (dVar 13) (dPart (dC (DV.int 1))) dNoPart) dANil))) D [s0, s1, s2, s3, s4, s5, s6, some (.str (ofL x)), some (.str G), s9, sa, sb, sc, some (.str (ofL y))] O := by
  refine dWhile_by (α := List Nat × List Nat) (fun p => [s0, s1, s2, s3, s4, s5, s6, some (.str (ofL p.1)), some (.str G), s9, sa, sb, sc, some (.str (ofL p.2))]) (fun _ => O) (fun p => p.1 ++ (if c ∈ tl G then spanIn (tl G) p.2 else []) = x ++ (if c ∈ tl G then spanIn (tl G) y else []) ∧ p.1.head? = some c ∧ p.1.length + p.2.length ≤ 2000) (fun p => p.2.length) (x, y) rfl rfl ⟨rfl, hx, hl⟩ ?_
  rintro ⟨p, q⟩ nx ⟨h1, h2, h3⟩ hn
  dsimp only at h1 h2 h3 hn
  have l1 := line_of (n := p.length + q.length + 2) (by omega)
  have l2 := line_of (n := p.length) (by omega)
  have l3 := line_of (n := q.length) (by omega)
  have i0 : p[0]? = some c := by cases p with | nil => cases h2 | cons a p => exact h2
  wp_walk using i0, l1, l2, l3, tl_ofL
  have out : (c ∉ tl G ∨ spanIn (tl G) q = []) → D.nx [s0, s1, s2, s3, s4, s5, s6, some (.str (ofL p)), some (.str G), s9, sa, sb, sc, some (.str (ofL q))] O := by
    intro h
    have e : x ++ (if c ∈ tl G then spanIn (tl G) y else []) = p := by
      rw [← h1]
      rcases h with h | h
      · rw [if_neg h, List.append_nil]
      · rw [h]; simp
    have := hk (.str (ofL q))
    rw [e] at this
    exact this
  refine ite_c (fun hc => ?_) (fun hc => out (.inl hc))
  refine ite_c (fun hq => ?_) (fun hq => ?_)
  · cases q with
    | nil => exact absurd rfl hq
    | cons d q =>
      simp only [List.getElem?_cons_zero, onSome_e1]
      refine ite_c (fun hd => ⟨line_of (by simp only [List.length_cons] at h3; omega), ?_⟩) (fun hd => out (.inr (by unfold spanIn; rw [List.takeWhile_cons, if_neg (by simpa using hd)])))
      have ea : ofL p ++ (⟨#[d]⟩ : Str) = ofL (p ++ [d]) := ofL_app p [d]
      have eb : cutS (ofL (d :: q)) (some 1) none = ofL q := by rw [cut_from (by omega), tl_ofL]; rfl
      rw [ea, eb]
      refine hn (p ++ [d], q) ⟨?_, ?_, ?_⟩ (by simp)
      · rw [← h1, if_pos hc, if_pos hc]
        have : spanIn (tl G) (d :: q) = d :: spanIn (tl G) q := by unfold spanIn; rw [List.takeWhile_cons, if_pos (by simpa using hd)]
        rw [this]; simp
      · cases p with
        | nil => cases h2
        | cons a p => exact h2
      · simp only [List.length_append, List.length_cons, List.length_nil] at h3 ⊢; omega
  · have hq := Decidable.not_not.mp hq
    have : q = [] := by
      have := congrArg tl hq
      rw [tl_ofL] at this
      exact this
    subst this
    exact out (.inr rfl)

def sp__law_scan : DSp := fun ds O Q _ => ∃ (z : Str) (rs : List Str), ds = [.str z] ∧ (tl z).length ≤ 1000 ∧ Txt.split z (Str.ofString "\n") = rs ∧ (∀ r ∈ rs, (tl r).length ≤ 1000) ∧ rs.length ≤ 1001 ∧ (∀ wss, ScanRows rs wss → ∀ O', Fr O O' [] → Q (.tup [.lst (encAll 0 wss), .non]) O') ∧ ∀ i e ws, BadAt rs i e → ∀ O', Fr O O' [] → Q (.tup [.lst ws, .tup [.int ((i : Int) + 1), .int ((e : Int) + 1)]]) O'
def sp__law_like (n : Nat) : DSp := fun ds O Q _ => ∃ (v d1 d2 : DV) (m : Nat), ds = [d1, d2] ∧ n = m + 1 ∧ Pure m v ∧ Sees O d1 v ∧ Sees O d2 v ∧ Q (.bl true) O
def sp_law (n : Nat) : DSp := fun ds O Q _ => False
theorem ok_Fault___init__ (T : Tx K w mg) : FnOk P w K mg base CX0 1 T.f_Fault___init__ T.d_Fault___init__ ["self", "stage", "file", "place", "why"] (spFault T.c_Fault "stage" "file" "place" "why") := by
  refine T.t_Fault___init__.fn.ok sc_Fault___init__ (fun vs H Q E h => by obtain ⟨a, v1, v2, v3, v4, rfl, _⟩ := h; rfl) (fun cdv A outer s H vs Q E hr h => ?_)
  obtain ⟨a, v1, v2, v3, v4, rfl, ha, k⟩ := h
  refine ⟨_, pss_cons (ps_expr (pe_binit rfl T.cm_WholeError T.cr_WholeError T.vi_WholeError (pa_cons (pv 0) (pa_cons pe_str pa_nil))) rfl) (pss_cons (ps_ost (pv 0) (pv 1)) (pss_cons (ps_ost (pv 0) (pv 2)) (pss_cons (ps_ost (pv 0) (pv 3)) (pss_one (ps_ost (pv 0) (pv 4)))))), ?_⟩
  refine ⟨.ref a, rfl, a, T.c_Fault, [_], rfl, by decide, T.oe_Fault, ha, ?_⟩
  refine ⟨v1, rfl, .ref a, rfl, a, T.c_Fault, rfl, T.oe_Fault, T.na_Fault_stage, .inl ⟨ha, fun dx hdx ne => ?_⟩⟩
  refine ⟨v2, rfl, .ref a, rfl, a, T.c_Fault, rfl, T.oe_Fault, T.na_Fault_file, .inr ⟨dx, [("stage", v1)], by simp only [upd_same, upd_ne (Ne.symm ne)], by simp only [upd_same, upd_ne ne], by simp, ?_⟩⟩
  refine ⟨v3, rfl, .ref a, rfl, a, T.c_Fault, rfl, T.oe_Fault, T.na_Fault_place, .inr ⟨dx, [("file", v2), ("stage", v1)], by simp only [upd_same, upd_ne (Ne.symm ne)], by simp only [upd_same, upd_ne ne], by simp, ?_⟩⟩
  refine ⟨v4, rfl, .ref a, rfl, a, T.c_Fault, rfl, T.oe_Fault, T.na_Fault_why, .inr ⟨dx, [("place", v3), ("file", v2), ("stage", v1)], by simp only [upd_same, upd_ne (Ne.symm ne)], by simp only [upd_same, upd_ne ne], by simp, ?_⟩⟩
  exact k dx hdx ne _ (fun b b1 b2 => by simp only [upd_ne b1, upd_ne b2]) (by simp only [upd_same, upd_ne (Ne.symm ne)]) (by simp only [upd_same])
theorem ok_run_of (T : Tx K w mg) : FnOk P w K mg base CX0 1 T.f_run_of T.d_run_of ["row", "at", "signs"] (liftSp K (sp_run_of)) := by
  refine DFun.ok T.t_run_of.fn sc_run_of (by decide) (by rintro _ _ _ _ ⟨_, _, _, rfl, _⟩; rfl) (fun cdv A outer s H E ds O Q ED hr h => ?_)
  have nd := sc_run_of.nd
  have hu64 := hr.units
  have hu := hu_of hr
  refine ⟨_, (dss_cons (ds_set 3 (dv 1) nd)
      (dss_cons (ds_while PassesOwn.never (dt_w (dw_and (dt_cmp od_lt (dv 3) (de_callB cd_len T.n_len bb_len (da_cons (dv 0) da_nil))) (dw_and1 (dt_cmp od_in (de_ix (dv 0) (dv 3)) (dv 2))))) (dss_one (ds_aug 3 od_iadd de_int nd)))
      (dss_one (ds_ret (de_slice (dv 0) (do_some (dv 1)) (do_some (dv 3))))))), ?_⟩
  obtain ⟨z, a, g, rfl, ha, hz, k⟩ := h
  walk_at "ev"
  refine dWhile_by (fun e : Nat => [some (.str z), some (.int a), some (.str g), some (.int (e : Int))]) (fun _ => O) (fun e => a ≤ e ∧ e ≤ (tl z).length ∧ ∀ c ∈ ((tl z).drop a).take (e - a), c ∈ tl g) (fun e => (tl z).length - e) a rfl rfl ⟨Nat.le_refl _, ha, by simp⟩ ?_
  rintro e nx ⟨h1, h2, h3⟩ hn
  walk_at "ev"
  have hl : (tl z).length ≤ sizeLine := line_of (by omega)
  have fin : (∀ c, (tl z)[e]? = some c → c ∉ tl g) → Q (.str (cutS z (some ↑a) (some ↑e))) O := fun h4 => by
    rw [cut_int (Int.natCast_nonneg _) (Int.natCast_nonneg _)]
    have := span_take h1 h2 h3 h4
    simpa [this] using k
  refine ⟨hl, ite_c (fun q => ⟨hl, ?_⟩) (fun q => ⟨hl, fin fun c hc => ?_⟩)⟩
  · have hlt : e < (tl z).length := by omega
    have e0 := List.getElem?_eq_getElem hlt
    rw [e0]
    refine ite_c (fun q2 => ?_) (fun q2 => ⟨hl, fin fun c hc => ?_⟩)
    · refine hn (e + 1) ⟨by omega, by omega, fun c hc => ?_⟩ (by omega)
      rw [show e + 1 - a = (e - a) + 1 by omega, List.take_add_one] at hc
      rcases List.mem_append.mp hc with hc | hc
      · exact h3 c hc
      · rw [List.getElem?_drop, show a + (e - a) = e by omega, e0] at hc
        simp at hc; subst hc; exact q2
    · rw [e0] at hc; cases hc; exact q2
  · rw [List.getElem?_eq_none (by omega)] at hc; cases hc
theorem ok_word_at (T : Tx K w mg) : FnOk P w K mg base CX0 2 T.f_word_at T.d_word_at ["row", "at"] (liftSp K (sp_word_at)) := by
  refine DFun.ok T.t_word_at.fn sc_word_at (by decide) (by rintro _ _ _ _ ⟨_, _, rfl, _⟩; rfl) (fun cdv A outer s H E ds O Q ED hr h => ?_)
  have nd := sc_word_at.nd
  have hu64 := hr.units
  have hu := hu_of hr
  have G_run_of := ok_run_of (P := P) (base := base) T
  have hr_run_of : Room 1 _ := hr.mono (by omega)
  refine ⟨_, (dss_cons (ds_if (dt_cmp od_in (de_ix (dv 0) (dv 1)) T.e_LETTERS) (dss_cons (ds_set 3 (de_call G_run_of hr_run_of T.t_run_of.mg T.t_run_of.fn.kp T.t_run_of.bi (da_cons (dv 0) (da_cons (dv 1) (da_cons T.e_LETTERS da_nil)))) nd)
      (dss_cons (ds_if (dt_cmp T.in_OWN (dv 3) T.e_OWN) (dss_one (ds_ret (de_tup (da_cons de_str (da_cons (dv 3) da_nil))))) dss_nil)
      (dss_one (ds_ret (de_tup (da_cons (de_if (dt_cmp od_le (de_callB cd_len T.n_len bb_len (da_cons (dv 3) da_nil)) T.e_LONG) de_str de_str) (da_cons (dv 3) da_nil))))))) dss_nil)
      (dss_cons (ds_if (dt_cmp od_in (de_ix (dv 0) (dv 1)) T.e_FIGURES) (dss_cons (ds_set 3 (de_call G_run_of hr_run_of T.t_run_of.mg T.t_run_of.fn.kp T.t_run_of.bi (da_cons (dv 0) (da_cons (dv 1) (da_cons T.e_FIGURES da_nil)))) nd)
      (dss_one (ds_ret (de_tup (da_cons (de_if (dt_w (dw_and (dt_cmp od_le (de_callB cd_len T.n_len bb_len (da_cons (dv 3) da_nil)) T.e_LONG) (dw_and1 (dt_w (dw_or (dt_cmp (od_eq hu64) (dv 3) de_str) (dw_or1 (dt_cmp (od_ne hu64) (de_ix (dv 3) de_int) de_str))))))) de_str de_str) (da_cons (dv 3) da_nil)))))) dss_nil)
      (dss_cons (ds_for PassesOwn.never rfl (di_tup T.e_SIGNS) (dg_name 2 nd) (dss_one (ds_if (dt_cmp (od_eq hu64) (de_slice (dv 0) (do_some (dv 1)) (do_some (de_op od_add (dv 1) (de_callB cd_len T.n_len bb_len (da_cons (dv 2) da_nil))))) (dv 2)) (dss_one (ds_ret (de_tup (da_cons de_str (da_cons (dv 2) da_nil))))) dss_nil)))
      (dss_one (ds_ret (de_tup (da_cons de_str (da_cons (de_ix (dv 0) (dv 1)) da_nil)))))))), ?_⟩
  obtain ⟨z, a, rfl, ha, hz, k⟩ := h
  walk_at "ev"
  have hl : (tl z).length ≤ sizeLine := line_of (by omega)
  have e0 := List.getElem?_eq_getElem ha
  have e1 : ((tl z).drop a).head? = some (tl z)[a] := by rw [List.head?_drop, e0]
  generalize (tl z)[a] = c at e0 e1
  simp only [e0, onSome_e1, hl, true_and]
  refine ite_c (fun hc => ?_) (fun hc => ?_)
  · refine ⟨z, a, _, rfl, Nat.le_of_lt ha, hz, ?_⟩
    walk_at "ev"
    have hs : (spanIn letters ((tl z).drop a)).length ≤ sizeLine := line_of (by have := span_len letters ((tl z).drop a); rw [List.length_drop] at this; omega)
    refine ite_c (fun q => ?_) (fun q => ⟨hs, ?_⟩)
    · have e := wordL_own e1 hc q; rw [e] at k; exact k
    · refine ite_c (fun q2 => ?_) (fun q2 => ?_)
      · have e := wordL_name e1 hc q (by exact_mod_cast q2); rw [e] at k; exact k
      · have e := wordL_long e1 hc q (by exact_mod_cast q2); rw [e] at k; exact k
  wp_walk using e0, hl
  refine ite_c (fun hf => ?_) (fun hf => ?_)
  · refine ⟨z, a, _, rfl, Nat.le_of_lt ha, hz, ?_⟩
    walk_at "ev"
    have hs : (spanIn figs ((tl z).drop a)).length ≤ sizeLine := line_of (by have := span_len figs ((tl z).drop a); rw [List.length_drop] at this; omega)
    obtain ⟨t, et⟩ := span_ne e1 hf
    refine ⟨hs, ite_c (fun q => ite_c (fun q2 => ?_) (fun q2 => ⟨hs, ?_⟩)) (fun q => ?_)⟩
    · have e := wordL_num e1 hc hf (by exact_mod_cast q) (.inl (by have := congrArg tl q2; exact this)); rw [e] at k; exact k
    · refine onSome_of (x := c) (by show (spanIn figs ((tl z).drop a))[0]? = some c; rw [et]; rfl) ?_
      refine ite_c (fun q3 => ?_) (fun q3 => ?_)
      · have e := wordL_num e1 hc hf (by exact_mod_cast q) (.inr (by intro w; subst w; exact q3 rfl)); rw [e] at k; exact k
      · have e := wordL_nonum e1 hc hf (by
          rintro ⟨_, w | w⟩
          · exact q2 (ext_tl w)
          · have q3 := Decidable.not_not.mp q3
            have := congrArg tl q3
            exact w (List.cons.inj this).1)
        rw [e] at k; exact k
    · have e := wordL_nonum e1 hc hf (by rintro ⟨w, _⟩; exact q (by exact_mod_cast w)); rw [e] at k; exact k
  · wp_walk using e0, hl
    simp only [cut_eq]
    refine And.right (chain_ok (r := (tl z).drop a) (P := fun s => Q (.tup [.str "sign", .str s]) O) (N := Q (.tup [.str "", .str ⟨#[c]⟩]) O) (ss := signsW) signs_short (fun s hs => ?_) (fun hs => ?_))
    · have e := wordL_sign e1 hc hf hs; rw [e] at k; simpa only [ofL_tl] using k
    · have e := wordL_none e1 hc hf hs; rw [e] at k; exact k
theorem ok_words_in (T : Tx K w mg) : FnOk P w K mg base (L2.CX P w) 3 T.f_words_in T.d_words_in ["row", "number"] (liftSp K (sp_words_in T.c_Fault)) := by
  refine DFun.okX T.t_words_in.fn sc_words_in (by decide) (by rintro _ _ _ _ ⟨_, _, _, _, rfl, _⟩; rfl) (fun cdv A outer s H E ds O Q ED hr h => ?_)
  have nd := sc_words_in.nd
  have hu64 := hr.units
  have hu := hu_of hr
  have G_word_at := ok_word_at (P := P) (base := base) T
  have hr_word_at : Room 2 _ := hr.mono (by omega)
  have G_Fault___init__ := ok_Fault___init__ (P := P) (base := base) T
  have hr_Fault___init__ : Room 2 _ := hr.mono (by omega)
  refine ⟨_, (dss_cons (ds_set 2 (de_lstO da_nil) nd)
      (dss_cons (ds_set 3 de_int nd)
      (dss_cons (ds_while (passes_of rfl) (dt_w (dw_and (dt_cmp od_lt (dv 3) (de_callB cd_len T.n_len bb_len (da_cons (dv 0) da_nil))) (dw_and1 (dt_cmp (od_ne hu64) (de_ix (dv 0) (dv 3)) T.e_REMARK)))) (dss_one (ds_if (dt_cmp (od_eq hu64) (de_ix (dv 0) (dv 3)) de_str) (dss_one (ds_aug 3 od_iadd de_int nd)) (dss_cons (ds_asg (de_call G_word_at hr_word_at T.t_word_at.mg T.t_word_at.fn.kp T.t_word_at.bi (da_cons (dv 0) (da_cons (dv 3) da_nil))) (dg_tup (n := 2) rfl (dgs_cons (dg_name 4 nd) (dgs_cons (dg_name 5 nd) dgs_nil))))
      (dss_cons (ds_if (dt_cmp (od_eq hu64) (dv 4) de_str) (dss_one (ds_raise T.oe_Fault T.t_Fault___init__.ic T.t_Fault___init__.ti G_Fault___init__ hr_Fault___init__ T.t_Fault___init__.bi T.cm_Fault (da_cons de_str (da_cons de_str (da_cons (de_tup (da_cons (dv 1) (da_cons (de_op od_add (dv 3) de_int) da_nil))) (da_cons de_str da_nil)))))) dss_nil)
      (dss_cons (ds_expr (de_bm PySem.F.plainAttrs_list PySem.F.slot_list_append PySem.F.type_list_append md_append (dv 2) (da_cons (de_tup (da_cons (dv 4) (da_cons (dv 5) (da_cons (de_tup (da_cons (dv 1) (da_cons (de_op od_add (dv 3) de_int) da_nil))) da_nil)))) da_nil)))
      (dss_one (ds_aug 3 od_iadd (de_callB cd_len T.n_len bb_len (da_cons (dv 5) da_nil)) nd))))))))
      (dss_one (ds_retF (dv 2)))))), ?_⟩
  obtain ⟨z, n, ws, o, rfl, hz, hs, k, kx⟩ := h
  walk_at "ev"
  have hl : (tl z).length ≤ sizeLine := line_of (by omega)
  intro p hp
  refine dWhile_by (α := Nat × List Wd × Option DV × Option DV) (fun x => [some (.str z), some (.int n), some (.ref p), some (.int (x.1 : Int)), x.2.2.1, x.2.2.2]) (fun x => oset O p (.lst (x.2.1.map (encW n)))) (fun x => (x.1 ≤ (tl z).length ∧ x.2.1.length ≤ x.1) ∧ ∃ ws', ScanO ((tl z).drop x.1) x.1 ws' o ∧ x.2.1 ++ ws' = ws) (fun x => (tl z).length - x.1) (0, [], none, none) rfl rfl ⟨⟨Nat.zero_le _, Nat.zero_le _⟩, ws, hs, rfl⟩ ?_
  rintro ⟨e, acc, k1, k2⟩ nx ⟨⟨h1, h1'⟩, ws', h2, h3⟩ hn
  dsimp only at h1 h1' h2 h3 hn
  walk_at "ev"
  simp only [hl, true_and, one_hash, one_blank]
  have fin : ws' = [] ∧ o = none → Q (.lst (acc.map (encW n))) (odel (oset O p (.lst (acc.map (encW n)))) p) := by
    rintro ⟨rfl, ho⟩
    rw [odel_oset hp]
    rw [List.append_nil] at h3
    rw [h3]; exact k ho
  refine ite_c (fun q => ?_) (fun q => ?_)
  · have hlt : e < (tl z).length := by omega
    have e0 := List.getElem?_eq_getElem hlt
    rw [List.drop_eq_getElem_cons hlt] at h2
    have e2 := List.drop_eq_getElem_cons hlt
    generalize (tl z)[e] = c at e0 h2 e2
    simp only [e0, onSome_e1]
    refine ite_c (fun q1 => ite_c (fun q2 => ?_) (fun q2 => ?_)) (fun q1 => ?_)
    · subst q2
      exact hn (e + 1, acc, k1, k2) ⟨⟨hlt, by dsimp only; omega⟩, ws', scanO_blank h2, h3⟩ (by dsimp only; omega)
    · refine ⟨z, e, rfl, hlt, hz, ?_⟩
      rw [e2]
      rcases scanO_cons h2 q1 q2 with ⟨hk, ho⟩ | ⟨kd, w, ws2, h4, h5, h6, h7⟩
      · wp_walk using hk
        exact ⟨_, _, _, _, rfl, kx e ho _ ((Fr.refl).set (.inr hp))⟩
      · rw [h4]
        walk_at "ev"
        simp only [h5, if_false]
        have hb := wordL_bounds (c := c) (r := (tl z).drop (e + 1))
        rw [h4, ← e2, List.length_drop] at hb
        dsimp only at hb
        walk_at "go"
        have := hn (e + w.length, acc ++ [(kd, w, e)], some (.str kd), some (.str (ofL w))) ⟨⟨by dsimp only; omega, by simp; omega⟩, ws2, by rw [← e2, List.drop_drop] at h7; exact h7, by simp [← h3, h6]⟩ (by dsimp only; omega)
        simp only [List.map_append, List.map_cons, List.map_nil, encW, Int.natCast_add] at this
        exact this
    · have q1 := Decidable.not_not.mp q1
      subst q1
      exact fin (scanO_hash h2)
  · rw [List.drop_eq_nil_of_le (by omega)] at h2
    exact fin (scanO_nil h2)
theorem ok_word_rows (T : Tx K w mg) : FnOk P w K mg base (L2.CX P w) 4 T.f_word_rows T.d_word_rows ["text"] (liftSp K (sp_word_rows T.c_Fault)) := by
  refine DFun.okX T.t_word_rows.fn sc_word_rows (by decide) (by rintro _ _ _ _ ⟨_, _, rfl, _⟩; rfl) (fun cdv A outer s H E ds O Q ED hr h => ?_)
  have nd := sc_word_rows.nd
  have hu64 := hr.units
  have hu := hu_of hr
  have G_words_in := ok_words_in (P := P) (base := base) T
  have hr_words_in : Room 3 _ := hr.mono (by omega)
  refine ⟨_, (dss_one (ds_ret (de_lcE false (own := [("at", 1), ("row", 2)]) rfl nd (di_enum T.n_enumerate (da_cons (de_bm PySem.F.plainAttrs_str PySem.F.slot_str_split PySem.F.type_str_split md_split (dv 0) (da_cons de_str da_nil)) da_nil)) (blkOk_by (N := N_word_rows) (sc := defScope s_word_rows) (by decide +kernel)) (tgt_N (is := [1, 2]) (by decide) rfl) (fun _ _ _ _ _ => (pg_tup rfl (pgs_cons (pg_name (i := 1) nd rfl (Or.inl rfl)) (pgs_cons (pg_name (i := 2) nd rfl (Or.inl rfl)) pgs_nil)))) (fun _ _ _ _ _ => dts_nil) (fun _ _ _ _ _ _ => (de_callX G_words_in hr_words_in T.t_words_in.mg T.t_words_in.fn.kp T.t_words_in.bi (da_cons (dv 2) (da_cons (de_op od_add (dv 1) de_int) da_nil))))))), ?_⟩
  obtain ⟨z, rs, rfl, hz, hsp, hr1, hr2, k, kx⟩ := h
  walk_at "ev"
  refine ⟨by decide +kernel, line_of (by omega), ?_⟩
  rw [hsp]
  have key : ∀ (rem pre : List Str) (ws0 : List (List Wd)), rs = pre ++ rem → ScanRows pre ws0 → lcW false (bindN [1, 2]) dYes (dCallX ED (sp_words_in T.c_Fault) (dACons (dVar 2) (dACons (dOp dAdd (dVar 1) (dC (DV.int 1))) dANil))) [some (DV.str z), none, none] Q (enumD pre.length (rem.map DV.str)) (encRows 0 ws0) O := by
    intro rem
    induction rem with
    | nil =>
      intro pre ws0 e hs
      walk_at "ev"
      rw [List.append_nil] at e
      exact k ws0 (by rw [e]; exact hs)
    | cons r rem ih =>
      intro pre ws0 e hs
      have hl := scanRows_len hs
      have hm : r ∈ rs := by rw [e]; simp
      have hlen : pre.length < rs.length := by rw [e]; simp
      obtain ⟨ws, o, hsc⟩ := scanO_tot _ (tl r) 0 (Nat.le_refl _)
      walk_at "ev"
      refine ⟨r, _, ws, o, rfl, by have := hr1 r hm; omega, hsc, fun ho => ⟨by rw [encRows_len]; omega, ?_⟩, fun e' he O' F => ?_⟩
      · have := ih (pre ++ [r]) (ws0 ++ [ws]) (by rw [e]; simp) (scanRows_app hs ⟨scanO_none hsc ho, trivial⟩)
        rw [encRows_app, List.length_append, ← hl] at this
        simpa [encRows] using this
      · refine kx pre.length e' ⟨r, ws, by rw [e]; simp, he ▸ hsc, fun j hj => ?_⟩ O' F
        have hj2 : j < ws0.length := by omega
        have g1 : pre[j]? = some pre[j] := List.getElem?_eq_getElem hj
        exact ⟨pre[j], ws0[j], by rw [e, List.getElem?_append_left hj]; exact g1, scanRows_get hs g1 (List.getElem?_eq_getElem hj2)⟩
  exact key rs [] [] rfl trivial
theorem ok_words_of (T : Tx K w mg) : FnOk P w K mg base (L2.CX P w) 5 T.f_words_of T.d_words_of ["text"] (liftSp K (sp_words_of T.c_Fault)) := by
  refine DFun.okX T.t_words_of.fn sc_words_of (by decide) (by rintro _ _ _ _ ⟨_, _, rfl, _⟩; rfl) (fun cdv A outer s H E ds O Q ED hr h => ?_)
  have nd := sc_words_of.nd
  have hu64 := hr.units
  have hu := hu_of hr
  have G_word_rows := ok_word_rows (P := P) (base := base) T
  have hr_word_rows : Room 4 _ := hr.mono (by omega)
  refine ⟨_, (dss_one (ds_ret (de_lc2 true (own := [("row", 1), ("word", 2)]) (vs1 := [2]) rfl nd  (di_list (de_callX G_word_rows hr_word_rows T.t_word_rows.mg T.t_word_rows.fn.kp T.t_word_rows.bi (da_cons (dv 0) da_nil))) (blkOk_by (N := N_words_of) (sc := defScope s_words_of) (by decide +kernel)) (by decide) (tgt_1 (i := 1) (by decide)) (tgt_1 (i := 2) (by decide)) (fun _ _ _ _ _ => (pg_name (i := 1) nd rfl (Or.inl rfl))) (fun _ _ _ _ _ => dts_nil) (fun _ _ _ _ _ => (di_list (dv 1))) (fun _ _ _ _ _ => (pg_name (i := 2) nd rfl (Or.inl rfl))) (fun _ _ _ _ _ => dts_nil) (fun _ _ _ _ _ => (dv 2))))), ?_⟩
  obtain ⟨z, rs, rfl, hz, hsp, hr1, hr2, k0, kx⟩ := h
  walk_at "ev"
  refine ⟨z, rs, rfl, hz, hsp, hr1, hr2, fun wss hs => ?_, kx⟩
  have k := k0 wss hs
  walk_at "ev"
  have hwl : ∀ ws ∈ wss, ws.length ≤ 10000 := by
    intro ws hw
    obtain ⟨i, hi⟩ := List.getElem?_of_mem hw
    have hlt : i < rs.length := by rw [scanRows_len hs]; exact (List.getElem?_eq_some_iff.mp hi).1
    have := scan_len (scanRows_get hs (List.getElem?_eq_getElem hlt) hi)
    have := hr1 _ (List.getElem_mem hlt)
    omega
  have hn : wss.length ≤ 1000 := by rw [← scanRows_len hs]; exact hr2
  clear hs hsp
  have key : ∀ (wss : List (List Wd)) (n : Nat) (acc : List DV), (∀ ws ∈ wss, ws.length ≤ 10000) → acc.length + 10000 * wss.length < 16000000 → (∀ p, O p = none → Q (.ref p) (oset O p (.lst (acc ++ encAll n wss)))) →
      lc2W true (bind1 1) dYes (dILst (dVar 1)) (bind1 2) dYes (dVar 2) [2] [some (.str z), none, none] Q (encRows n wss) acc O := by
    intro wss
    induction wss with
    | nil => intro n acc _ _ h; simpa [encRows, encAll, lc2W_e1, endLc_e2] using h
    | cons ws wss ih =>
      intro n acc h1 h2 h3
      simp only [encRows]
      walk_at "ev"
      have h4 := h1 ws List.mem_cons_self
      rw [List.length_cons] at h2
      refine lcG_pure _ (ws.map (encW ((n : Int) + 1))) acc rfl (by rw [List.length_map]; omega) (fun i x y e1 e2 R hR => ?_) ?_
      · rw [e1] at e2; cases e2
        walk_at "ev"
        exact hR
      · refine ih (n + 1) _ (fun ws hw => h1 ws (List.mem_cons_of_mem _ hw)) (by rw [List.length_append, List.length_map]; omega) (fun p hp => ?_)
        have := h3 p hp
        simp only [encAll] at this
        rw [List.append_assoc]; exact this
  exact key wss 0 [] hwl (by simp; omega) k
theorem ok__law_dice (T : Tx K w mg) : FnOk P w K mg base CX0 1 T.f__law_dice T.d__law_dice ["_law_script"] (liftSp K (sp__law_dice)) := by
  refine DFun.ok T.t__law_dice.fn sc__law_dice (by decide) (by rintro _ _ _ _ ⟨_, rfl, _⟩; rfl) (fun cdv A outer s H E ds O Q ED hr h => ?_)
  have nd := sc__law_dice.nd
  have hu64 := hr.units
  have hu := hu_of hr
  refine ⟨_, (dss_cons (ds_set 1 de_int nd)
      (dss_cons (ds_for PassesOwn.never rfl (di_list (dv 0)) (dg_name 2 nd) (dss_one (ds_set 1 (de_op od_mod (de_op od_add (de_op od_add (de_op od_mul (dv 1) de_int) (de_op od_mul (de_op od_mod (dv 2) de_int) de_int)) de_int) de_int) nd)))
      (dss_one (ds_ret (de_lstO (da_cons (dv 0) (da_cons de_int (da_cons (de_op od_mul (dv 1) (de_callTy cd_int T.n_int bb_int (da_cons (de_cmp od_gt (de_callB cd_len T.n_len bb_len (da_cons (dv 0) da_nil)) de_int) da_nil))) (da_cons de_int da_nil))))))))), ?_⟩
  obtain ⟨ns, rfl, hn, k⟩ := h
  walk_at "ev"
  refine forW_by (α := Int × Option DV) (fun x => [some (.slst (ns.map DV.int)), some (.int x.1), x.2]) (fun _ => O) _ (fun _ x => 0 ≤ x.1 ∧ x.1 < 2147483647) ?_ ?_ (0, none) rfl rfl ⟨by decide, by decide⟩
  · rintro i ⟨m, cl⟩ d nx e ⟨h1, h2⟩ hn2
    dsimp only at h1 h2
    rw [List.getElem?_map] at e
    cases e0 : ns[i]? with
    | none => rw [e0] at e; cases e
    | some v =>
      rw [e0] at e; cases e
      walk_at "go"
      exact hn2 (_, _) ⟨Int.emod_nonneg _ (by decide), Int.emod_lt_of_pos _ (by decide)⟩
  · rintro ⟨m, cl⟩ ⟨h1, h2⟩
    dsimp only at h1 h2
    walk_at "go"
    refine fun p hp => k p _ hp ?_
    · refine ⟨ns, 0, _, 0, rfl, by decide, ?_, ?_, by decide, hn⟩
      · split <;> omega
      · split <;> omega
theorem ok__law_next (T : Tx K w mg) : FnOk P w K mg base CX0 1 T.f__law_next T.d__law_next ["_law_dice_here", "_law_many"] (liftSp K (sp__law_next)) := by
  refine DFun.ok T.t__law_next.fn sc__law_next (by decide) (by rintro _ _ _ _ ⟨_, _, _, rfl, _⟩; rfl) (fun cdv A outer s H E ds O Q ED hr h => ?_)
  have nd := sc__law_next.nd
  have hu64 := hr.units
  have hu := hu_of hr
  refine ⟨_, (dss_cons (ds_if (dt_cmp od_gt (de_ix (dv 0) de_int) de_int) (dss_cons (ds_set 2 (de_op od_mod (de_ix (dv 0) de_int) (dv 1)) nd)
      (dss_cons (ds_asg (de_op od_fdiv (de_ix (dv 0) de_int) (dv 1)) (dg_sub (dv 0) de_int psd_list))
      (dss_one (ds_ret (dv 2))))) dss_nil)
      (dss_cons (ds_asg (de_op od_add (de_ix (dv 0) de_int) de_int) (dg_sub (dv 0) de_int psd_list))
      (dss_cons (ds_if (dt_cmp od_le (de_ix (dv 0) de_int) (de_callB cd_len T.n_len bb_len (da_cons (de_ix (dv 0) de_int) da_nil))) (dss_cons (ds_set 3 (de_ix (de_ix (dv 0) de_int) (de_op od_sub (de_ix (dv 0) de_int) de_int)) nd)
      (dss_cons (ds_asg (de_if (dt_cmp od_ge (dv 3) (de_op od_pow de_int de_int)) (de_op od_fdiv (dv 3) (dv 1)) de_int) (dg_sub (dv 0) de_int psd_list))
      (dss_one (ds_ret (de_op od_mod (dv 3) (dv 1)))))) dss_nil)
      (dss_cons (ds_asg (de_op od_mod (de_op od_mul (de_ix (dv 0) de_int) de_int) de_int) (dg_sub (dv 0) de_int psd_list))
      (dss_one (ds_ret (de_op od_mod (de_op od_fdiv (de_ix (dv 0) de_int) de_int) (dv 1)))))))), ?_⟩
  obtain ⟨a, m, c, rfl, hO, ⟨ns, p, mx, lf, rfl, h1, h2, h3, h4, h5⟩, hm, hm2, k⟩ := h
  wp_walk using hO
  refine ite_c (fun q => ?_) (fun q => ?_)
  · wp_walk using hO
    exact k _ _ (Int.emod_nonneg _ (by omega)) (Int.emod_lt_of_pos _ hm) ⟨ns, _, _, _, rfl, h1, h2, h3, Int.ediv_nonneg h4 (by omega), h5⟩
  · wp_walk using hO
    refine ite_c (fun q2 => ?_) (fun q2 => ?_)
    · rw [List.length_map] at q2
      have e : atI (List.map DV.int ns) (p + 1 - 1) = some (.int (ns[p.toNat]'(by omega))) := by
        rw [show p + 1 - 1 = p by omega, atI_pos h1, List.getElem?_map, List.getElem?_eq_getElem (by omega)]; rfl
      generalize ns[p.toNat]'(by omega) = v at e
      wp_walk using e
      refine ite_c (fun q3 => ?_) (fun q3 => ?_)
      · have q4 : (0 : Int) ≤ v := by
          have : (0 : Int) ≤ 10 ^ Int.toNat 18 := by decide
          omega
        walk_at "go"
        exact k _ _ (Int.emod_nonneg _ (by omega)) (Int.emod_lt_of_pos _ hm) ⟨ns, _, _, _, rfl, by omega, h2, h3, Int.ediv_nonneg q4 (by omega), h5⟩
      · walk_at "go"
        exact k _ _ (Int.emod_nonneg _ (by omega)) (Int.emod_lt_of_pos _ hm) ⟨ns, _, _, _, rfl, by omega, h2, h3, by decide, h5⟩
    · walk_at "go"
      exact k _ _ (Int.emod_nonneg _ (by omega)) (Int.emod_lt_of_pos _ hm) ⟨ns, _, _, _, rfl, by omega, Int.emod_nonneg _ (by decide), Int.emod_lt_of_pos _ (by decide), h4, h5⟩
theorem ok__law_pick (T : Tx K w mg) : FnOk P w K mg base CX0 2 T.f__law_pick T.d__law_pick ["_law_d", "_law_some"] (liftSp K (sp__law_pick)) := by
  refine DFun.ok T.t__law_pick.fn sc__law_pick (by decide) (by rintro _ _ _ _ ⟨_, _, _, _, rfl, _⟩; rfl) (fun cdv A outer s H E ds O Q ED hr h => ?_)
  have nd := sc__law_pick.nd
  have hu64 := hr.units
  have hu := hu_of hr
  have G__law_next := ok__law_next (P := P) (base := base) T
  have hr__law_next : Room 1 _ := hr.mono (by omega)
  refine ⟨_, (dss_one (ds_ret (de_ix (dv 1) (de_call G__law_next hr__law_next T.t__law_next.mg T.t__law_next.fn.kp T.t__law_next.bi (da_cons (dv 0) (da_cons (de_callB cd_len T.n_len bb_len (da_cons (dv 1) da_nil)) da_nil)))))), ?_⟩
  obtain ⟨a, d, c, xs, rfl, hO, hD, hs, hs', h0, h1, k⟩ := h
  walk_at "ev"
  refine seq_len hs ?_
  refine ⟨a, _, c, rfl, hO, hD, by omega, by omega, fun r c' r0 r1 hc => ?_⟩
  have hlt : r.toNat < xs.length := by omega
  refine seq_ix (hs' c') (x := xs[r.toNat]) (by rw [atI_pos r0]; exact List.getElem?_eq_getElem hlt) (k _ (List.getElem_mem _) _ hc)
theorem ok__law_scan (T : Tx K w mg) : FnOk P w K mg base CX0 1 T.f__law_scan T.d__law_scan ["_law_text"] (liftSp K (sp__law_scan)) := by
  refine DFun.ok T.t__law_scan.fn sc__law_scan (by decide) (by rintro _ _ _ _ ⟨_, _, rfl, _⟩; rfl) (fun cdv A outer s H E ds O Q ED hr h => ?_)
  have nd := sc__law_scan.nd
  have hu64 := hr.units
  have hu := hu_of hr
  refine ⟨_, (dss_cons (ds_set 1 (de_lstF (da_cons de_str (da_cons de_str (da_cons de_str (da_cons de_str (da_cons de_str (da_cons de_str (da_cons de_str (da_cons de_str (da_cons de_str (da_cons de_str (da_cons de_str (da_cons de_str (da_cons de_str (da_cons de_str da_nil))))))))))))))) nd)
      (dss_cons (ds_set 1 (de_op od_add (dv 1) (de_lstF (da_cons de_str (da_cons de_str (da_cons de_str (da_cons de_str (da_cons de_str (da_cons de_str da_nil)))))))) nd)
      (dss_cons (ds_par 2 3 nd (da_cons (de_lstF da_nil) (da_cons (de_bm PySem.F.plainAttrs_str PySem.F.slot_str_split PySem.F.type_str_split md_split (dv 0) (da_cons de_str da_nil)) da_nil)))
      (dss_cons (ds_for PassesOwn.never rfl (di_range1 T.n_range (da_cons (de_callB cd_len T.n_len bb_len (da_cons (dv 3) da_nil)) da_nil)) (dg_name 4 nd) (dss_cons (ds_par 5 6 nd (da_cons (de_ix (de_bm PySem.F.plainAttrs_str PySem.F.slot_str_split PySem.F.type_str_split md_split (de_ix (dv 3) (dv 4)) (da_cons de_str da_nil)) de_int) (da_cons de_int da_nil)))
      (dss_one (ds_while PassesOwn.never (dt_cmp od_lt (dv 6) (de_callB cd_len T.n_len bb_len (da_cons (dv 5) da_nil))) (dss_cons (ds_set 7 (de_ix (dv 5) (dv 6)) nd)
      (dss_cons (ds_for PassesOwn.never rfl (di_list (de_lstF (da_cons de_str (da_cons de_str da_nil)))) (dg_name 8 nd) (dss_cons (ds_set 13 (de_slice (dv 5) (do_some (de_op od_add (dv 6) (de_callB cd_len T.n_len bb_len (da_cons (dv 7) da_nil)))) do_none) nd)
      (dss_one (ds_while PassesOwn.never (dt_w (dw_and (dt_cmp od_in (de_ix (dv 7) de_int) (dv 8)) (dw_and (dt_cmp (od_ne hu64) (dv 13) de_str) (dw_and1 (dt_cmp od_in (de_ix (dv 13) de_int) (dv 8)))))) (dss_one (ds_par 7 13 nd (da_cons (de_op od_add (dv 7) (de_ix (dv 13) de_int)) (da_cons (de_slice (dv 13) (do_some de_int) do_none) da_nil))))))))
      (dss_cons (ds_set 7 (de_if (dt_cmp od_in (de_slice (dv 5) (do_some (dv 6)) (do_some (de_op od_add (dv 6) de_int))) (de_tup (da_cons de_str (da_cons de_str da_nil)))) (de_slice (dv 5) (do_some (dv 6)) (do_some (de_op od_add (dv 6) de_int))) (dv 7)) nd)
      (dss_cons (ds_par 9 10 nd (da_cons (de_cmp od_in (de_ix (dv 7) de_int) de_str) (da_cons (de_cmp od_in (de_ix (dv 7) de_int) de_str) da_nil)))
      (dss_cons (ds_set 11 (de_or (de_cmp (od_eq hu64) (dv 7) de_str) (de_or (de_cmp od_in (dv 7) (de_lstF (da_cons de_str (da_cons de_str da_nil)))) (de_or (de_and (de_cmp (od_eq hu64) (de_callB cd_len T.n_len bb_len (da_cons (dv 7) da_nil)) de_int) (de_one (de_cmp od_in (dv 7) de_str))) (de_one (de_cmp od_in (dv 7) (dv 1)))))) nd)
      (dss_cons (ds_set 11 (de_or (dv 11) (de_one (de_and (de_or (dv 9) (de_one (dv 10))) (de_and (de_cmp od_lt (de_callB cd_len T.n_len bb_len (da_cons (dv 7) da_nil)) de_int) (de_one (de_not (de_and (dv 10) (de_and (de_cmp (od_eq hu64) (de_ix (dv 7) de_int) de_str) (de_one (de_cmp (od_ne hu64) (dv 7) de_str)))))))))) nd)
      (dss_cons (ds_if (dt_not (dt_val (dv 11))) (dss_one (ds_ret (de_tup (da_cons (dv 2) (da_cons (de_tup (da_cons (de_op od_add (dv 4) de_int) (da_cons (de_op od_add (dv 6) de_int) da_nil))) da_nil))))) dss_nil)
      (dss_cons (ds_set 12 (de_if (dt_cmp od_in (dv 7) (dv 1)) de_str (de_if (dt_val (dv 9)) de_str (de_if (dt_val (dv 10)) de_str de_str))) nd)
      (dss_cons (ds_set 2 (de_op od_add (dv 2) (de_op od_mulL (de_lstF (da_cons (de_tup (da_cons (dv 12) (da_cons (dv 7) (da_cons (de_tup (da_cons (de_op od_add (dv 4) de_int) (da_cons (de_op od_add (dv 6) de_int) da_nil))) da_nil)))) da_nil)) (de_callTy cd_int T.n_int bb_int (da_cons (de_cmp (od_ne hu64) (dv 7) de_str) da_nil)))) nd)
      (dss_one (ds_set 6 (de_op od_add (dv 6) (de_callB cd_len T.n_len bb_len (da_cons (dv 7) da_nil))) nd)))))))))))))))
      (dss_one (ds_ret (de_tup (da_cons (dv 2) (da_cons de_non da_nil))))))))), ?_⟩
  obtain ⟨z, rs, rfl, hz, hsp, hr, hrl, k, kx⟩ := h
  walk_at "ev"
  have hl := line_of (n := (tl z).length + 2) (by omega)
  refine ⟨line_of (by decide), ?_⟩
  wp_walk using hsp, hl
  refine ⟨by decide, ?_⟩
  walk_at "ev"
  refine ⟨by rw [List.length_map]; exact ⟨by omega, by omega⟩, ?_⟩
  refine forW_inv (fun i S' O' => ∃ (wss : List (List Wd)) (z4 z5 z6 z7 z8 z9 za zb zc zd : Option DV), S' = [some (.str z), some (.lst (ownW.map DV.str)), some (.lst (encAll 0 wss)), some (.lst (rs.map DV.str)), z4, z5, z6, z7, z8, z9, za, zb, zc, zd] ∧ ScanRows (rs.take i) wss ∧ Fr O O' []) ⟨[], _, _, _, _, _, _, _, _, _, _, rfl, trivial, Fr.refl⟩ ?_ ?_
  · rintro i S' O1 x nx ex ⟨wss, z4, z5, z6, z7, z8, z9, za, zb, zc, zd, rfl, hs, F1⟩ hnx
    obtain ⟨hi, rfl⟩ : i < rs.length ∧ x = .int (i : Int) := by
      rw [List.getElem?_map] at ex
      cases hh : (List.range (((rs.map DV.str).length : Int)).toNat)[i]? with
      | none => rw [hh] at ex; cases ex
      | some v =>
        rw [hh] at ex
        obtain ⟨g1, g2⟩ := List.getElem?_eq_some_iff.mp hh
        rw [List.length_range, List.length_map, Int.toNat_natCast] at g1
        rw [List.getElem_range] at g2
        subst g2
        exact ⟨g1, by cases ex; rfl⟩
    have e0 : (rs.map DV.str)[i]? = some (.str rs[i]) := by rw [List.getElem?_map, List.getElem?_eq_getElem hi]; rfl
    have hri := hr rs[i] (List.getElem_mem hi)
    have e00 := List.getElem?_eq_getElem hi
    generalize rs[i] = r at e0 hri e00
    obtain ⟨xs, hsh⟩ := split_hash r
    have hsh : Txt.split r (Str.ofString "#") = ofL (cutH (tl r)) :: xs := hsh
    have hul := cutH_len (l := tl r)
    have hu35 := cutH_no (l := tl r)
    obtain ⟨ws, o, hsc⟩ := scanO_tot _ (cutH (tl r)) 0 (Nat.le_refl _)
    have hfull := cut_scan _ _ _ _ _ (Nat.le_refl _) hsc
    have l1 := line_of (n := (tl r).length + 2) (by omega)
    have hEA := encAll_le (k := 0) hs (fun x hx => hr x (List.mem_of_mem_take hx))
    rw [List.length_take] at hEA
    generalize cutH (tl r) = u at hsh hul hu35 hsc
    wp_walk using e0, hsh, l1
    refine ⟨by decide, ?_⟩
    refine dWhile_by (α := Nat × List Wd × Option DV × Option DV × Option DV × Option DV × Option DV × Option DV × Option DV) (fun x => [some (.str z), some (.lst (ownW.map DV.str)), some (.lst (encAll 0 wss ++ x.2.1.map (encW ((i : Int) + 1)))), some (.lst (rs.map DV.str)), some (.int (i : Int)), some (.str (ofL u)), some (.int (x.1 : Int)), x.2.2.1, x.2.2.2.1, x.2.2.2.2.1, x.2.2.2.2.2.1, x.2.2.2.2.2.2.1, x.2.2.2.2.2.2.2.1, x.2.2.2.2.2.2.2.2]) (fun _ => O1) (fun x => (x.1 ≤ u.length ∧ x.2.1.length ≤ x.1) ∧ ∃ ws', ScanO (u.drop x.1) x.1 ws' o ∧ x.2.1 ++ ws' = ws) (fun x => u.length - x.1) (0, [], z7, z8, z9, za, zb, zc, zd) (by simp) rfl ⟨⟨Nat.zero_le _, Nat.zero_le _⟩, ws, hsc, rfl⟩ ?_
    rintro ⟨e, acc, y7, y8, y9, ya, yb, yc, yd⟩ nx2 ⟨⟨w1, w1'⟩, ws', w2, w3⟩ hn
    dsimp only at w1 w1' w2 w3 hn
    have l2 := line_of (n := u.length) (by omega)
    wp_walk using tl_ofL, l2
    refine ite_c (fun q => ?_) (fun q => ?_)
    · have hlt : e < u.length := by omega
      have e0u := List.getElem?_eq_getElem hlt
      have c35 : u[e] ≠ 35 := fun h => hu35 (h ▸ List.getElem_mem hlt)
      rw [List.drop_eq_getElem_cons hlt] at w2
      have e2 := List.drop_eq_getElem_cons hlt
      generalize u[e] = c at e0u w2 e2 c35
      have htl : (u.drop (e + 1)).length ≤ 1000 := by rw [List.length_drop]; omega
      have ecut : ∀ n : Nat, cutS (ofL u) (some ((e : Int) + (n : Int))) none = ofL (u.drop (e + n)) := fun n => by
        rw [cut_from (by omega), tl_ofL]
        rfl
      obtain ⟨x1, hx1⟩ : ∃ x1, [c] ++ (if c ∈ tl (Str.ofString "abcdefghijklmnopqrstuvwxyz") then spanIn (tl (Str.ofString "abcdefghijklmnopqrstuvwxyz")) (u.drop (e + 1)) else []) = x1 := ⟨_, rfl⟩
      have lx1 : x1.length ≤ 1001 := by
        rw [← hx1]
        split
        · have := span_len (tl (Str.ofString "abcdefghijklmnopqrstuvwxyz")) (u.drop (e + 1))
          simp only [List.length_append, List.length_cons, List.length_nil]; omega
        · simp
      have lx1' := line_of (n := x1.length) (by omega)
      wp_walk using e0u, l2, tl_ofL, ecut
      refine span_while _ c [c] (u.drop (e + 1)) (by simp only [List.length_cons, List.length_nil]; omega) rfl (fun m1 => ?_)
      rw [hx1]
      wp_walk using e0u, l2, tl_ofL, ecut, lx1'
      refine span_while _ c x1 (u.drop (e + x1.length)) (by rw [List.length_drop]; omega) (by rw [← hx1]; rfl) (fun m2 => ?_)
      have hx2 : x1 ++ (if c ∈ tl (Str.ofString "0123456789") then spanIn (tl (Str.ofString "0123456789")) (u.drop (e + x1.length)) else []) = runW (c :: u.drop (e + 1)) := run_two hx1 fun hc => by
        rw [← hx1, if_neg hc]; rfl
      rw [hx2]
      have lr := (run_len (c := c) (t := u.drop (e + 1))).1
      have lr' := line_of (n := (runW (c :: u.drop (e + 1))).length) (by omega)
      have ecut2 : cutS (ofL u) (some (e : Int)) (some ((e : Int) + 2)) = ofL ((c :: u.drop (e + 1)).take 2) := by
        rw [cut_int (by omega) (by omega), tl_ofL, ← e2]
        have : ((e : Int) + 2).toNat - ((e : Int)).toNat = 2 := by omega
        rw [this]; rfl
      obtain ⟨W, hWW⟩ : ∃ W, lawW (c :: u.drop (e + 1)) = W := ⟨_, rfl⟩
      simp only [DL.forW_e1]
      refine dSeq_mid (fun S' O' => S' = [some (.str z), some (.lst (ownW.map DV.str)), some (.lst (encAll 0 wss ++ acc.map (encW ((i : Int) + 1)))), some (.lst (rs.map DV.str)), some (.int (i : Int)), some (.str (ofL u)), some (.int (e : Int)), some (.str (ofL W)), some (.str (Str.ofString "0123456789")), y9, ya, yb, yc, some m2] ∧ O1 = O') (fun R hR => ?_) ?_
      · wp_walk using ecut2, lr', tl_ofL
        have htw : (decide (Str.ofString "<>" = ofL ((c :: u.drop (e + 1)).take 2)) || decide (Str.ofString "<=" = ofL ((c :: u.drop (e + 1)).take 2))) = twoW (c :: u.drop (e + 1)) := by
          unfold twoW
          congr 1
          · exact decide_eq_decide.mpr (eq_comm.trans two_str.1)
          · exact decide_eq_decide.mpr (eq_comm.trans two_str.2)
        rw [htw]
        refine ite_c (fun h2 => ⟨l2, ?_⟩) (fun h2 => ?_)
        · rw [show (c :: u.drop (e + 1)).take 2 = W from by (rw [← hWW]; unfold lawW; rw [if_pos h2])]
          exact hR _ _ ⟨rfl, rfl⟩
        · rw [show runW (c :: u.drop (e + 1)) = W from by (rw [← hWW]; unfold lawW; rw [if_neg h2])]
          exact hR _ _ ⟨rfl, rfl⟩
      rintro _ _ ⟨rfl, rfl⟩
      obtain ⟨hw1, hw2, hw3⟩ := law_len (c := c) (t := u.drop (e + 1))
      have hlw := fun h32 => law_word (c := c) (r := u.drop (e + 1)) h32 c35
      rw [hWW] at hw1 hw2 hw3 hlw
      have hw0 : W[0]? = some c := by cases W with | nil => cases hw3 | cons a W => exact hw3
      have lW := line_of (n := W.length) (by omega)
      clear ecut ecut2 hx1 hx2 lr lr' lx1 lx1'
      have eb : (ofL W = Str.ofString " ") ↔ W = [32] := ⟨fun h => by have := congrArg tl h; rw [tl_ofL] at this; exact this, fun h => by rw [h]; rfl⟩
      have e0s : (ofL W = Str.ofString "0") ↔ W = [48] := ⟨fun h => by have := congrArg tl h; rw [tl_ofL] at this; exact this, fun h => by rw [h]; rfl⟩
      have ec0 : ((⟨#[c]⟩ : Str) = Str.ofString "0") ↔ c = 48 := ⟨fun h => by have := congrArg tl h; exact (List.cons.inj this).1, fun h => by rw [h]; rfl⟩
      have etw : (decide (Str.ofString "<>" = ofL W) || decide (Str.ofString "<=" = ofL W)) = (decide (W = [60, 62]) || decide (W = [60, 61])) := by
        congr 1
        · exact decide_eq_decide.mpr (eq_comm.trans two_str.1)
        · exact decide_eq_decide.mpr (eq_comm.trans two_str.2)
      have eow : (decide (Str.ofString "use" = ofL W) || (decide (Str.ofString "const" = ofL W) || (decide (Str.ofString "keep" = ofL W) || (decide (Str.ofString "out" = ofL W) || (decide (Str.ofString "def" = ofL W) || (decide (Str.ofString "num" = ofL W) || (decide (Str.ofString "yes" = ofL W) || (decide (Str.ofString "no" = ofL W) || (decide (Str.ofString "let" = ofL W) || (decide (Str.ofString "if" = ofL W) || (decide (Str.ofString "else" = ofL W) || (decide (Str.ofString "while" = ofL W) || (decide (Str.ofString "end" = ofL W) || (decide (Str.ofString "give" = ofL W) || (decide (Str.ofString "say" = ofL W) || (decide (Str.ofString "do" = ofL W) || (decide (Str.ofString "or" = ofL W) || (decide (Str.ofString "and" = ofL W) || (decide (Str.ofString "not" = ofL W) || (decide (Str.ofString "mod" = ofL W))))))))))))))))))))) = decide (ofL W ∈ ownW) := by
        simp only [ownW, List.mem_cons, List.not_mem_nil, or_false, eq_comm (b := ofL W), Bool.decide_or]
      have hwd : W.headD 0 = c := by cases W with | nil => cases hw3 | cons a W => cases hw3; rfl
      refine dSeq_mid2 (fun S' O' => ∃ b, b = lookA W ∧ S' = [some (.str z), some (.lst (ownW.map DV.str)), some (.lst (encAll 0 wss ++ acc.map (encW ((i : Int) + 1)))), some (.lst (rs.map DV.str)), some (.int (i : Int)), some (.str (ofL u)), some (.int (e : Int)), some (.str (ofL W)), some (.str (Str.ofString "0123456789")), some (.bl (decide (c ∈ tl (Str.ofString "abcdefghijklmnopqrstuvwxyz")))), some (.bl (decide (c ∈ tl (Str.ofString "0123456789")))), some (.bl b), yc, some m2] ∧ O1 = O') (fun R hR => ?_) ?_
      · wp_walk using hw0, lW, tl_ofL, etw, eow
        refine ite_c (fun h1 => hR _ _ ⟨_, ?_, rfl, rfl⟩) (fun h1 => ?_)
        · rw [eb.mp h1]; rfl
        have h1' : ¬ W = [32] := fun h => h1 (eb.mpr h)
        refine ite_c (fun h2 => hR _ _ ⟨_, ?_, rfl, rfl⟩) (fun h2 => ?_)
        · unfold lookA; rw [h2]; simp
        refine ite_c (fun h3 => ?_) (fun h3 => hR _ _ ⟨_, ?_, rfl, rfl⟩)
        · have h3' : W.length = 1 := by exact_mod_cast h3
          obtain rfl : W = [c] := by
            cases W with
            | nil => cases hw3
            | cons a W =>
              cases hw3
              simp only [List.length_cons] at h3'
              rw [List.length_eq_zero_iff.mp (by omega : W.length = 0)]
          walk_at "ev"
          have h2' : (decide (([c] : List Nat) = [60, 62]) || decide (([c] : List Nat) = [60, 61])) = false := by simp
          refine ite_c (fun h4 => hR _ _ ⟨_, ?_, rfl, rfl⟩) (fun h4 => hR _ _ ⟨_, ?_, rfl, rfl⟩)
          · have h4' : c ∈ oneS := h4
            unfold lookA
            rw [h2']
            simp [h4']
          · have h4' : ¬ c ∈ oneS := h4
            unfold lookA
            rw [h2']
            simp [h4', h1']
        · have h3' : ¬ W.length = 1 := by exact_mod_cast h3
          have h2' : (decide (W = [60, 62]) || decide (W = [60, 61])) = false := by simpa using h2
          unfold lookA
          rw [h2']
          simp [h1', h3']
      rintro _ _ ⟨b1, hb1, rfl, rfl⟩
      refine dSeq_mid (fun S' O' => ∃ b, b = (b1 || lookB W) ∧ S' = [some (.str z), some (.lst (ownW.map DV.str)), some (.lst (encAll 0 wss ++ acc.map (encW ((i : Int) + 1)))), some (.lst (rs.map DV.str)), some (.int (i : Int)), some (.str (ofL u)), some (.int (e : Int)), some (.str (ofL W)), some (.str (Str.ofString "0123456789")), some (.bl (decide (c ∈ tl (Str.ofString "abcdefghijklmnopqrstuvwxyz")))), some (.bl (decide (c ∈ tl (Str.ofString "0123456789")))), some (.bl b), yc, some m2] ∧ O1 = O') (fun R hR => ?_) ?_
      · have eB : lookB W = ((decide (c ∈ tl (Str.ofString "abcdefghijklmnopqrstuvwxyz")) || decide (c ∈ tl (Str.ofString "0123456789"))) && (decide (W.length < 7) && !(decide (c ∈ tl (Str.ofString "0123456789")) && (decide (c = 48) && !decide (W = [48]))))) := by
          unfold lookB
          rw [hwd]
        wp_walk using hw0, lW, tl_ofL, ec0, e0s
        cases b1 with
        | true => exact hR _ _ ⟨_, by simp, rfl, rfl⟩
        | false =>
          simp only [Bool.false_eq_true, if_false, Bool.false_or]
          have h7i : ((W.length : Int) < 7) ↔ W.length < 7 := by omega
          rcases Decidable.em (c = 48) with h48 | h48
          · subst h48
            have hL : ¬ (48 ∈ tl (Str.ofString "abcdefghijklmnopqrstuvwxyz")) := by decide +kernel
            have hF : 48 ∈ tl (Str.ofString "0123456789") := by decide +kernel
            by_cases h7 : W.length < 7
            all_goals
              simp only [hL, hF, h7i, h7, if_true, if_false]
              refine hR _ _ ⟨lookB W, (Bool.false_or _).symm, ?_, rfl⟩
              rw [eB]
              simp only [hL, hF, h7, decide_true, decide_false, Bool.true_or, Bool.false_or, Bool.or_self, Bool.true_and, Bool.false_and, Bool.not_true, Bool.not_false, Bool.not_not, Bool.and_true, Bool.and_false]
              try rfl
          · by_cases hL : c ∈ tl (Str.ofString "abcdefghijklmnopqrstuvwxyz")
            all_goals by_cases hF : c ∈ tl (Str.ofString "0123456789")
            all_goals by_cases h7 : W.length < 7
            all_goals
              simp only [hL, hF, h7i, h7, h48, if_true, if_false]
              refine hR _ _ ⟨lookB W, (Bool.false_or _).symm, ?_, rfl⟩
              rw [eB]
              simp only [hL, hF, h7, h48, decide_true, decide_false, Bool.true_or, Bool.false_or, Bool.or_self, Bool.true_and, Bool.false_and, Bool.not_true, Bool.not_false, Bool.not_not, Bool.and_true, Bool.and_false]
              try rfl
      rintro _ _ ⟨b2, hb2, rfl, rfl⟩
      wp_walk using hw0, lW, tl_ofL
      refine ite_c (fun h5 => ?_) (fun h5 => ?_)
      · have hb3 : (lookA W || lookB W) = false := by rw [← hb1, ← hb2]; exact h5
        have h32 : W ≠ [32] := fun h => by rw [h] at hb3; revert hb3; decide +kernel
        have c32 : c ≠ 32 := fun h => by
          subst h
          have : lawW (32 :: u.drop (e + 1)) = [32] := by
            unfold lawW
            rw [two_hd (by decide), if_neg (by decide), runW_cons, if_neg (by decide +kernel), if_neg (by decide +kernel)]
          exact h32 (hWW ▸ this)
        have hbad := (hlw c32).2 (by rw [← good_ab h32]; exact hb3)
        rcases scanO_cons w2 c35 c32 with ⟨_, rfl⟩ | ⟨k', w', ws2, h6, h7, _, _⟩
        · refine kx i e _ ⟨r, ws, e00, hfull, fun j hj => ?_⟩ _ F1
          have hsl := scanRows_len hs
          have hjt : j < (rs.take i).length := by rw [List.length_take]; omega
          have g1 := List.getElem?_eq_getElem hjt
          have g2 : rs[j]? = some ((rs.take i)[j]) := by rw [← g1, List.getElem?_take_of_lt hj]
          exact ⟨_, _, g2, scanRows_get hs g1 (List.getElem?_eq_getElem (by omega))⟩
        · rw [h6] at hbad; exact absurd hbad h7
      · have hb3 : (lookA W || lookB W) = true := by rw [← hb1, ← hb2]; simpa using h5
        by_cases c32 : c = 32
        · subst c32
          obtain rfl : W = [32] := by
            rw [← hWW]
            unfold lawW
            rw [two_hd (by decide), if_neg (by decide), runW_cons, if_neg (by decide +kernel), if_neg (by decide +kernel)]
          have no : ¬ (ofL [32] ∈ ownW) := fun h => by have := own_hd h; revert this; decide +kernel
          have hL : ¬ (32 ∈ tl (Str.ofString "abcdefghijklmnopqrstuvwxyz")) := by decide +kernel
          have hF : ¬ (32 ∈ tl (Str.ofString "0123456789")) := by decide +kernel
          have sp : (ofL [32] = Str.ofString " ") := rfl
          wp_walk using tl_ofL, eow, no, hL, hF, sp
          rw [show (List.replicate (Int.toNat 0) [DV.tup [DV.str (Str.ofString "sign"), DV.str (Str.ofString " "), DV.tup [DV.int ((i : Int) + 1), DV.int ((e : Int) + 1)]]]).flatten = [] from rfl, List.append_nil]
          refine ⟨line_of (by rw [List.length_append, List.length_map]; simp only [List.length_nil]; omega), line_of (by decide), ?_⟩
          exact hn (e + 1, acc, some (.str (Str.ofString " ")), some (.str (Str.ofString "0123456789")), some (.bl false), some (.bl false), some (.bl b2), some (.str (Str.ofString "sign")), some m2) ⟨⟨by dsimp only; omega, by dsimp only; omega⟩, ws', scanO_blank w2, w3⟩ (by dsimp only; omega)
        · have h32 : W ≠ [32] := fun h => by
            rw [h] at hw0
            cases hw0
            exact c32 rfl
          have hg := (hlw c32).1 (by rw [← good_ab h32]; exact hb3)
          rcases scanO_cons w2 c35 c32 with ⟨hk, _⟩ | ⟨k', w', ws2, h6, h7, rfl, h8⟩
          · exact absurd hk hg.2
          · rw [hg.1] at h6
            cases h6
            have nb : ¬ (ofL W = Str.ofString " ") := fun h => h32 (eb.mp h)
            refine dSeq_mid (fun S' O' => S' = [some (.str z), some (.lst (ownW.map DV.str)), some (.lst (encAll 0 wss ++ acc.map (encW ((i : Int) + 1)))), some (.lst (rs.map DV.str)), some (.int (i : Int)), some (.str (ofL u)), some (.int (e : Int)), some (.str (ofL W)), some (.str (Str.ofString "0123456789")), some (.bl (decide (c ∈ tl (Str.ofString "abcdefghijklmnopqrstuvwxyz")))), some (.bl (decide (c ∈ tl (Str.ofString "0123456789")))), some (.bl b2), some (.str (kindW2 W)), some m2] ∧ O1 = O') (fun R hR => ?_) ?_
            · have ek : kindW2 W = if ofL W ∈ ownW then ("own" : Str) else if c ∈ tl (Str.ofString "abcdefghijklmnopqrstuvwxyz") then ("name" : Str) else if c ∈ tl (Str.ofString "0123456789") then ("num" : Str) else ("sign" : Str) := by unfold kindW2; rw [hwd]
              wp_walk using lW, tl_ofL, eow
              refine ite_c (fun o => hR _ _ ⟨by rw [ek, if_pos o]; rfl, rfl⟩) (fun o => ?_)
              refine ite_c (fun l => hR _ _ ⟨by rw [ek, if_neg o, if_pos l]; rfl, rfl⟩) (fun l => ?_)
              refine ite_c (fun f => hR _ _ ⟨by rw [ek, if_neg o, if_neg l, if_pos f]; rfl, rfl⟩) (fun f => hR _ _ ⟨by rw [ek, if_neg o, if_neg l, if_neg f]; rfl, rfl⟩)
            rintro _ _ ⟨rfl, rfl⟩
            wp_walk using lW, tl_ofL, nb
            rw [show (List.replicate (Int.toNat 1) [DV.tup [DV.str (kindW2 W), DV.str (ofL W), DV.tup [DV.int ((i : Int) + 1), DV.int ((e : Int) + 1)]]]).flatten = [encW ((i : Int) + 1) (kindW2 W, W, e)] from rfl]
            refine ⟨line_of (by rw [List.length_append, List.length_map]; simp only [List.length_cons, List.length_nil]; omega), ?_⟩
            rw [← e2, List.drop_drop] at h8
            have hWu : e + W.length ≤ u.length := by rw [List.length_drop] at hw2; omega
            have := hn (e + W.length, acc ++ [(kindW2 W, W, e)], some (.str (ofL W)), some (.str (Str.ofString "0123456789")), some (.bl (decide (c ∈ tl (Str.ofString "abcdefghijklmnopqrstuvwxyz")))), some (.bl (decide (c ∈ tl (Str.ofString "0123456789")))), some (.bl b2), some (.str (kindW2 W)), some m2) ⟨⟨hWu, by rw [List.length_append]; simp only [List.length_cons, List.length_nil]; omega⟩, ws2, h8, by rw [← w3, List.append_assoc]; rfl⟩ (by dsimp only; omega)
            rw [List.map_append, ← List.append_assoc] at this
            exact this
    · have he : e = u.length := by omega
      rw [List.drop_eq_nil_of_le (by omega)] at w2
      obtain ⟨rfl, rfl⟩ := scanO_nil w2
      rw [List.append_nil] at w3
      subst w3
      have hsl := scanRows_len hs
      rw [List.length_take, Nat.min_eq_left (by omega)] at hsl
      refine hnx _ _ ⟨wss ++ [acc], some (.int (i : Int)), some (.str (ofL u)), some (.int (e : Int)), y7, y8, y9, ya, yb, yc, yd, ?_, ?_, F1⟩
      · rw [encAll_app2, ← hsl, Nat.zero_add]
        simp only [encAll, List.append_nil]
        rfl
      · rw [List.take_succ, e00]
        exact scanRows_app hs ⟨scanO_none hfull rfl, trivial⟩
  · rintro S' O1 ⟨wss, z4, z5, z6, z7, z8, z9, za, zb, zc, zd, rfl, hs, F1⟩
    walk_at "ev"
    rw [List.length_map, List.length_range, List.length_map, Int.toNat_natCast, List.take_length] at hs
    exact k wss hs _ F1

theorem ok__law_like (T : Tx K w mg) : ∀ n : Nat, FnOk P w K mg base CX0 (n + 1) T.f__law_like T.d__law_like ["_law_found", "_law_due"] (liftSp K (sp__law_like n))
| 0 => fn_false (fun ds O Q E h => by obtain ⟨v, d1, d2, m, rfl, hm, h⟩ := h; cases hm)
| n + 1 => by
  have G__law_like := ok__law_like T n
  refine DFun.ok T.t__law_like.fn sc__law_like (by decide) (by rintro _ _ _ _ ⟨_, _, _, _, rfl, _⟩; rfl) (fun cdv A outer s H E ds O Q ED hr h => ?_)
  have hr__law_like : Room (n + 1) _ := hr
  have nd := sc__law_like.nd
  have hu64 := hr.units
  have hu := hu_of hr
  refine ⟨_, (dss_cons (ds_if (dt_w (dw_or (dt_val (de_callB cd_isi T.n_isinstance bb_isinstance (da_cons (dv 1) (da_cons (de_blt T.n_tuple bb_tuple) da_nil)))) (dw_or1 (dt_val (de_callB cd_isi T.n_isinstance bb_isinstance (da_cons (dv 1) (da_cons (de_blt T.n_list bb_list) da_nil))))))) (dss_cons (ds_if (dt_cmp (od_ne hu64) (de_callB cd_isi T.n_isinstance bb_isinstance (da_cons (dv 0) (da_cons (de_blt T.n_tuple bb_tuple) da_nil))) (de_callB cd_isi T.n_isinstance bb_isinstance (da_cons (dv 1) (da_cons (de_blt T.n_tuple bb_tuple) da_nil)))) (dss_one (ds_ret de_bl)) dss_nil)
      (dss_cons (ds_if (dt_w (dw_or (dt_cmp (od_ne hu64) (de_callB cd_isi T.n_isinstance bb_isinstance (da_cons (dv 0) (da_cons (de_blt T.n_list bb_list) da_nil))) (de_callB cd_isi T.n_isinstance bb_isinstance (da_cons (dv 1) (da_cons (de_blt T.n_list bb_list) da_nil)))) (dw_or1 (dt_cmp (od_ne hu64) (de_callB cd_len T.n_len bb_len (da_cons (dv 0) da_nil)) (de_callB cd_len T.n_len bb_len (da_cons (dv 1) da_nil)))))) (dss_one (ds_ret de_bl)) dss_nil)
      (dss_one (ds_ret (de_cmp (od_eq hu64) (de_lc false (own := [("_law_k", 2)]) rfl nd  (di_range1 T.n_range (da_cons (de_callB cd_len T.n_len bb_len (da_cons (dv 1) da_nil)) da_nil)) (blkOk_by (N := N__law_like) (sc := defScope s__law_like) (by decide +kernel)) (tgt_1 (i := 2) (by decide)) (fun _ _ _ _ _ => (pg_name (i := 2) nd rfl (Or.inl rfl))) (fun _ _ _ _ _ => (dts_one (dt_not (dt_val (de_call G__law_like hr__law_like T.t__law_like.mg T.t__law_like.fn.kp T.t__law_like.bi (da_cons (de_ix (dv 0) (dv 2)) (da_cons (de_ix (dv 1) (dv 2)) da_nil))))))) (fun _ _ _ _ _ => (dv 2))) (de_lstF da_nil)))))) dss_nil)
      (dss_cons (ds_if (dt_cmp (od_ne hu64) (de_callB cd_isi T.n_isinstance bb_isinstance (da_cons (dv 0) (da_cons (de_blt T.n_bool bb_bool) da_nil))) (de_callB cd_isi T.n_isinstance bb_isinstance (da_cons (dv 1) (da_cons (de_blt T.n_bool bb_bool) da_nil)))) (dss_one (ds_ret de_bl)) dss_nil)
      (dss_cons (ds_if (dt_w (dw_or (dt_cmp (od_ne hu64) (de_callB cd_isi T.n_isinstance bb_isinstance (da_cons (dv 0) (da_cons (de_blt T.n_int bb_int) da_nil))) (de_callB cd_isi T.n_isinstance bb_isinstance (da_cons (dv 1) (da_cons (de_blt T.n_int bb_int) da_nil)))) (dw_or1 (dt_cmp (od_ne hu64) (de_callB cd_isi T.n_isinstance bb_isinstance (da_cons (dv 0) (da_cons (de_blt T.n_str bb_str) da_nil))) (de_callB cd_isi T.n_isinstance bb_isinstance (da_cons (dv 1) (da_cons (de_blt T.n_str bb_str) da_nil))))))) (dss_one (ds_ret de_bl)) dss_nil)
      (dss_one (ds_ret (de_cmp (od_eq hu64) (dv 0) (dv 1))))))), ?_⟩
  obtain ⟨v, d1, d2, m, rfl, hm, hv, h1, h2, k⟩ := h
  cases hm
  walk_at "ev"
  cases hv with
  | non =>
    have e1 := h1.flat (by rintro _ e; cases e)
    have e2 := h2.flat (by rintro _ e; cases e)
    subst e1; subst e2
    wp_walk using DL.dEqP, DL.toPy
    exact ⟨rfl, rfl, k⟩
  | bl b =>
    have e1 := h1.flat (by rintro _ e; cases e)
    have e2 := h2.flat (by rintro _ e; cases e)
    subst e1; subst e2
    walk_at "go"
    exact k
  | int b =>
    have e1 := h1.flat (by rintro _ e; cases e)
    have e2 := h2.flat (by rintro _ e; cases e)
    subst e1; subst e2
    walk_at "go"
    exact k
  | str b =>
    have e1 := h1.flat (by rintro _ e; cases e)
    have e2 := h2.flat (by rintro _ e; cases e)
    subst e1; subst e2
    walk_at "go"
    exact k
  | tup hx hl =>
    obtain ⟨q1, t1⟩ := Sees.seq.2 h1
    obtain ⟨q2, t2⟩ := Sees.seq.2 h2
    wp_walk using t1, t2
    refine seq_len q1 (seq_len q2 ?_)
    wp_walk using not_true, decide_true, Bool.not_true
    refine seq_len q2 ?_
    wp_walk using not_true
    refine like_all (fun j hj K hK => ?_) (by walk_at "ev"; exact ⟨rfl, rfl, k⟩)
    rw [Int.toNat_natCast] at hj
    walk_at "ev"
    have hg := (List.getElem?_eq_getElem hj)
    refine seq_ix q1 (by rw [atI_nat_]; exact hg) (seq_ix q2 (by rw [atI_nat_]; exact hg) ?_)
    refine ⟨_, _, _, _, rfl, rfl, hx _ (List.getElem_mem hj), .inl rfl, .inl rfl, ?_⟩
    walk_at "ev"
    exact hK
  | lst hx hl =>
    obtain ⟨q1, t1⟩ := Sees.seq.1 h1
    obtain ⟨q2, t2⟩ := Sees.seq.1 h2
    wp_walk using t1, t2
    refine seq_len q1 (seq_len q2 ?_)
    wp_walk using not_true, decide_true, Bool.not_true
    refine seq_len q2 ?_
    wp_walk using not_true
    refine like_all (fun j hj K hK => ?_) (by walk_at "ev"; exact ⟨rfl, rfl, k⟩)
    rw [Int.toNat_natCast] at hj
    walk_at "ev"
    have hg := (List.getElem?_eq_getElem hj)
    refine seq_ix q1 (by rw [atI_nat_]; exact hg) (seq_ix q2 (by rw [atI_nat_]; exact hg) ?_)
    refine ⟨_, _, _, _, rfl, rfl, hx _ (List.getElem_mem hj), .inl rfl, .inl rfl, ?_⟩
    walk_at "ev"
    exact hK
theorem ok_law (T : Tx K w mg) (n : Nat) (TB : LamX.TabB base mg T.co_law T.c_tb_law) : FnOk P w K mg base CX0 (10) T.f_law T.d_law ["_law_script"] (liftSp K (spLawT T.c_tb_law "law.<locals>.<lambda>")) := by
  refine DFun.okC T.hc_law T.t_law.fn sc_law (by decide) (by rintro _ _ _ _ ⟨_, rfl, _⟩; rfl) (fun A outer s H E ds O Q ED hr h => ?_)
  have nd := sc_law.nd
  have hu64 := hr.units
  have hu := hu_of hr
  have G__law_dice := ok__law_dice (P := P) (base := base) T
  have hr__law_dice : Room 1 _ := hr.mono (by omega)
  have G__law_next := ok__law_next (P := P) (base := base) T
  have hr__law_next : Room 1 _ := hr.mono (by omega)
  have G__law_pick := ok__law_pick (P := P) (base := base) T
  have hr__law_pick : Room 2 _ := hr.mono (by omega)
  have G__law_scan := ok__law_scan (P := P) (base := base) T
  have hr__law_scan : Room 1 _ := hr.mono (by omega)
  have G__law_like := ok__law_like (P := P) (base := base) T 4
  have hr__law_like : Room 5 _ := hr.mono (by omega)
  have G_words_of := ok_words_of (P := P) (base := base) T
  have hr_words_of : Room 5 _ := hr.mono (by omega)
  refine ⟨_, (dss_cons (ds_set 1 (de_call G__law_dice hr__law_dice T.t__law_dice.mg T.t__law_dice.fn.kp T.t__law_dice.bi (da_cons (dv 0) da_nil)) nd)
      (dss_cons (ds_for PassesOwn.never rfl (di_range1 T.n_range (da_cons de_int da_nil)) (dg_name 2 nd) (dss_cons (ds_set 3 de_str nd)
      (dss_cons (ds_for PassesOwn.never rfl (di_range1 T.n_range (da_cons (de_call G__law_next hr__law_next T.t__law_next.mg T.t__law_next.fn.kp T.t__law_next.bi (da_cons (dv 1) (da_cons de_int da_nil))) da_nil)) (dg_name 4 nd) (dss_cons (ds_set 8 (de_lstF (da_cons de_str (da_cons de_str (da_cons de_str (da_cons de_str (da_cons de_str (da_cons de_str (da_cons de_str (da_cons de_str (da_cons de_str (da_cons de_str (da_cons de_str (da_cons de_str da_nil))))))))))))) nd)
      (dss_cons (ds_set 8 (de_op od_add (dv 8) (de_lstF (da_cons de_str (da_cons de_str (da_cons de_str (da_cons de_str (da_cons de_str (da_cons de_str (da_cons de_str (da_cons de_str (da_cons de_str (da_cons de_str (da_cons de_str (da_cons de_str (da_cons de_str (da_cons de_str (da_cons de_str (da_cons de_str da_nil)))))))))))))))))) nd)
      (dss_one (ds_set 3 (de_op od_add (dv 3) (de_call G__law_pick hr__law_pick T.t__law_pick.mg T.t__law_pick.fn.kp T.t__law_pick.bi (da_cons (dv 1) (da_cons (dv 8) da_nil)))) nd)))))
      (dss_cons (ds_asg (de_call G__law_scan hr__law_scan T.t__law_scan.mg T.t__law_scan.fn.kp T.t__law_scan.bi (da_cons (dv 3) da_nil)) (dg_tup (n := 2) rfl (dgs_cons (dg_name 5 nd) (dgs_cons (dg_name 6 nd) dgs_nil))))
      (dss_cons (ds_set 7 (de_if (dt_cmp od_isN (dv 6) de_non) (dv 5) (de_tup (da_cons de_str (da_cons de_str (da_cons de_str (da_cons (dv 6) (da_cons de_str da_nil))))))) nd)
      (dss_one (ds_if (dt_not (dt_val (de_call G__law_like hr__law_like T.t__law_like.mg T.t__law_like.fn.kp T.t__law_like.bi (da_cons (de_told (q := "law.<locals>.<lambda>") (i := 1) (k := 5) T.t__law_told.fn T.t__law_told.bi T.t__law_told.mg sc__law_told rfl T.cm_Fault T.te_Fault (fun cdv f s H a oe dd pn hz hf => (dss_one (ds_ret (de_tup (da_cons de_str (da_cons (de_xf T.xf_Fault T.na_Fault_stage hz hf (dv 1)) (da_cons (de_xf T.xf_Fault T.na_Fault_file hz hf (dv 1)) (da_cons (de_xf T.xf_Fault T.na_Fault_place hz hf (dv 1)) (da_cons (de_xf T.xf_Fault T.na_Fault_why hz hf (dv 1)) da_nil))))))))) rfl TB rfl (hr.mono (by omega)) (show LamX.LamS (defScope s_law) _ from LamX.lamS_by (by decide +kernel)) rfl (fun _ _ _ _ _ => rfl) (fun XWb A outer s H E f c' hr2 => by have hr_words_of : Room _ _ := hr2; exact (de_callX G_words_of hr_words_of T.t_words_of.mg T.t_words_of.fn.kp T.t_words_of.bi (da_cons (dv 3) da_nil)))) (da_cons (dv 7) da_nil))))) (dss_one (ds_ret de_bl)) dss_nil)))))))
      (dss_one (ds_ret de_bl)))), ?_⟩
  obtain ⟨ns, rfl, hn, hT, k⟩ := h
  walk_at "ev"
  refine ⟨ns, rfl, hn, fun d c hd0 hD => ?_⟩
  have hdT : T.c_tb_law ≠ d := ne_of hT hd0
  have hT2 : oset O d c T.c_tb_law = some (.tbl "law.<locals>.<lambda>") := (oset_ne hdT).trans hT
  walk_at "ev"
  refine ⟨⟨by decide, by decide⟩, ?_⟩
  refine forW_inv (fun i S O' => ∃ (c' : Cell) (z2 z3 z4 z5 z6 z7 z8 : Option DV), S = [some (.slst (ns.map DV.int)), some (.ref d), z2, z3, z4, z5, z6, z7, z8] ∧ O' d = some c' ∧ Dice c' ∧ O' T.c_tb_law = some (.tbl "law.<locals>.<lambda>")) ⟨c, _, _, _, _, _, _, _, rfl, oset_same, hD, hT2⟩ ?_ ?_
  · rintro i S O2 dx nx he ⟨c', z2, z3, z4, z5, z6, z7, z8, rfl, h1, hD1, hT1⟩ hnx
    simp only [DL.dgName, List.set_cons_succ, List.set_cons_zero]
    refine dSeq_mid2 (fun S' O' => ∃ (zt : Str) (c2 : Cell) (w4 w8 : Option DV), S' = [some (.slst (ns.map DV.int)), some (.ref d), some dx, some (.str zt), w4, z5, z6, z7, w8] ∧ (tl zt).length ≤ 210 ∧ O' d = some c2 ∧ Dice c2 ∧ O' T.c_tb_law = some (.tbl "law.<locals>.<lambda>")) (fun R hR => ?_) ?_
    · wp_walk using h1
      refine ⟨d, 30, c', rfl, h1, hD1, by decide, by decide, fun r c2 hr0 hr1 hD2 => ?_⟩
      walk_at "ev"
      refine ⟨⟨by omega, by omega⟩, ?_⟩
      refine forW_inv (fun j S O' => ∃ (zt : Str) (c2 : Cell) (w4 w8 : Option DV), S = [some (.slst (ns.map DV.int)), some (.ref d), some dx, some (.str zt), w4, z5, z6, z7, w8] ∧ (tl zt).length ≤ 7 * j ∧ O' d = some c2 ∧ Dice c2 ∧ O' T.c_tb_law = some (.tbl "law.<locals>.<lambda>")) ⟨"", c2, _, _, rfl, by decide, oset_same, hD2, (oset_ne hdT).trans hT1⟩ ?_ ?_
      · rintro j S O3 dy nx2 he2 ⟨zt, c3, w4, w8, rfl, hl, g1, gD, gT⟩ hnx2
        have hj : j < 30 := by
          obtain ⟨q, _⟩ := List.getElem?_eq_some_iff.mp he2
          rw [List.length_map, List.length_range] at q
          omega
        have lz := line_of (n := (tl zt).length + 8) (by omega)
        walk_at "ev"
        refine ⟨line_of (by decide), ?_⟩
        refine ⟨d, .lst (piecesK.map DV.str), c3, piecesK.map DV.str, rfl, g1, gD, rfl, fun _ => rfl, by decide, by decide, fun x hx c4 hD4 => ?_⟩
        obtain ⟨s, hs, rfl⟩ := List.mem_map.mp hx
        have hs7 := pieces_len s hs
        walk_at "ev"
        refine ⟨line_of (by omega), hnx2 _ _ ⟨zt ++ s, c4, _, _, rfl, by rw [tl_append, List.length_append]; omega, oset_same, hD4, (oset_ne hdT).trans gT⟩⟩
      · rintro S O3 ⟨zt, c3, w4, w8, rfl, hl, g1, gD, gT⟩
        rw [List.length_map, List.length_range] at hl
        exact hR _ _ ⟨zt, c3, w4, w8, rfl, by omega, g1, gD, gT⟩
    rintro _ O3 ⟨zt, c2, w4, w8, rfl, hlz, g1, gD, gT⟩
    obtain ⟨hrl, hrn⟩ := split_nl zt
    generalize hrs : Txt.split zt (Str.ofString "\n") = rs at hrl hrn
    walk_at "ev"
    refine ⟨zt, rs, rfl, by omega, hrs, fun r hr => by have := hrl r hr; omega, by omega, fun wss hs O4 F4 => ?_, fun i' e' ws hb O4 F4 => ?_⟩
    · have gT4 := F4.at gT (by simp)
      have g14 := F4.at g1 (by simp)
      have hEA := encAll_le (k := 0) hs (fun r hr => by have := hrl r hr; omega)
      wp_walk using gT4
      refine ⟨fun _ _ _ => False, ?_, fun _ _ _ h => h.elim⟩
      refine ⟨zt, rs, rfl, by omega, hrs, fun r hr => by have := hrl r hr; omega, by omega, fun wss2 hs2 p hp => ?_, fun i e hb => (bad_no hs hb).elim⟩
      obtain rfl := scanRows_det hs2 hs
      walk_at "go"
      refine ⟨.lst (encAll 0 wss2), _, _, 3, rfl, rfl, .lst pure_all (by omega), .inr ⟨p, _, rfl, oset_same, rfl⟩, .inl rfl, ?_⟩
      walk_at "go"
      have np : p ≠ d := fun e => by rw [e, g14] at hp; cases hp
      have nq : p ≠ T.c_tb_law := fun e => by rw [e, gT4] at hp; cases hp
      exact hnx _ _ ⟨c2, _, _, _, _, _, _, _, rfl, (oset_ne (Ne.symm np)).trans g14, gD, (oset_ne (Ne.symm nq)).trans gT4⟩
    · have gT4 := F4.at gT (by simp)
      have g14 := F4.at g1 (by simp)
      wp_walk using gT4
      refine ⟨fun C' fs O' => C' = T.c_Fault ∧ Fr O4 O' [] ∧ ∃ i e, BadAt rs i e ∧ fs = fltW ((i : Int) + 1) e, ?_, ?_⟩
      · exact ⟨zt, rs, rfl, by omega, hrs, fun r hr => by have := hrl r hr; omega, by omega, fun wss2 hs2 => (bad_no hs2 hb).elim, fun i e hb O' f => ⟨rfl, f, i, e, hb, rfl⟩⟩
      · rintro C' fs O' ⟨rfl, f, i2, e2, hb2, rfl⟩
        obtain ⟨rfl, rfl⟩ := bad_one hb hb2
        refine ⟨rfl, _, rfl, fun a dd ha hd => ?_⟩
        have rs3 : (List.replicate 3 none : DSt).set 1 (some (.ref a)) = [none, some (.ref a), none] := rfl
        wp_walk using rs3, oset_same
        refine onSome_of (x := .str "words") rfl (onSome_of (x := .str "") rfl (onSome_of (x := .tup [.int ((i' : Int) + 1), .int ((e' : Int) + 1)]) rfl (onSome_of (x := .str "word") rfl ?_)))
        walk_at "go"
        refine ⟨_, _, _, 3, rfl, rfl, ?_, .inl rfl, .inl rfl, ?_⟩
        · refine .tup (n := 2) (fun x hx => ?_) (by simp)
          simp only [List.mem_cons, List.not_mem_nil, or_false] at hx
          rcases hx with rfl | rfl | rfl | rfl | rfl
          · exact .str _
          · exact .str _
          · exact .str _
          · refine .tup (n := 1) (fun y hy => ?_) (by simp)
            simp only [List.mem_cons, List.not_mem_nil, or_false] at hy
            rcases hy with rfl | rfl
            · exact .int _
            · exact .int _
          · exact .str _
        · walk_at "go"
          have nd1 : dd ≠ d := fun e => by rw [e, f.at g14 (by simp)] at hd; cases hd
          have nd2 : dd ≠ T.c_tb_law := fun e => by rw [e, f.at gT4 (by simp)] at hd; cases hd
          exact hnx _ _ ⟨c2, _, _, _, _, _, _, _, rfl, (oset_ne (Ne.symm nd1)).trans (f.at g14 (by simp)), gD, (oset_ne (Ne.symm nd2)).trans (f.at gT4 (by simp))⟩
  · rintro S O2 ⟨c', z2, z3, z4, z5, z6, z7, z8, rfl, h1, hD1, hT1⟩
    walk_at "ev"
    exact k _
end
end W1

set_option Elab.async false
set_option linter.all false
set_option maxRecDepth 100000
namespace W1
open PySem PySem.Spec PyProof.Rows L2 TL DL
section
variable {P : Program} {w : World} {K : PySem.W.Frag} {mg : Str → Option Value} {base : Heap}
theorem l_ok (T : Tx K w mg) (TB : LamX.TabB base mg T.co_law T.c_tb_law) : FnOk P w K mg base CX0 10 T.f_law T.d_law ["_law_script"] (liftSp K (spLawT T.c_tb_law "law.<locals>.<lambda>")) :=
  ok_law T 0 TB
end
end W1

set_option Elab.async false
set_option linter.all false
set_option maxRecDepth 100000
set_option maxHeartbeats 4000000
namespace W1
open PySem PySem.Spec PyProof.Rows L2 TL DL
theorem exm_self {K : PySem.W.Frag} {S : Addr} (h1 : PySem.W.subIn K (.ref S) (.type "BaseException") = some true) (h2 : PySem.W.isClsIn K S = true) (h3 : PySem.W.typeIn K (.ref S) = some (.type "type")) (h4 : PySem.W.subIn K (.ref S) (.ref S) = some true) : PySem.W.exmOne K (.ref S) (.ref S) = some true := by
  have e1 : (PySem.W.subIn K (.ref S) (.type "BaseException") == some true) = true := by rw [h1] <;> rfl
  have e2 : ((PySem.W.clsIn K S).isSome && PySem.W.typeIn K (.ref S) == some (.type "type")) = true := by
    have q : (PySem.W.clsIn K S).isSome = true := h2
    rw [q, h3] <;> rfl
  unfold PySem.W.exmOne
  rw [if_pos e1]
  unfold PySem.W.kitCls
  dsimp only
  rw [if_pos e2]
  exact h4
theorem all_mk {l : PySem.W.OpenLaw} {w : World} {K : PySem.W.Frag} {h : Heap} {mg : Str → Option Value} {fa : Addr} (X : K.In h) (G : h.Ns mainGlobals mg) (hfa : mg "law" = some (.ref fa))
    {c_Fault c_WholeError : Addr} (cm_Fault : PySem.W.nsIn K mainGlobals "Fault" = some (some (.ref c_Fault))) (cm_WholeError : PySem.W.nsIn K mainGlobals "WholeError" = some (some (.ref c_WholeError)))
    {xn_Fault xq_Fault : Str} {xN_Fault : Addr} {xb_Fault : List Value} {xs_Fault : List Str} {xu_Fault : List Value} {xa_Fault : Bool} {xc_Fault : Option Bool} {xd_Fault : Option Addr} {x0_Fault x1_Fault x2_Fault x3_Fault x5_Fault : Option Value}
    (xL_Fault : K.lookup c_Fault = some (PySem.excClassObj xn_Fault xq_Fault c_Fault xN_Fault xb_Fault [.ref c_WholeError, .type "ValueError", .type "Exception", .type "BaseException", .type "object"] true xs_Fault xu_Fault xa_Fault xc_Fault xd_Fault x0_Fault x1_Fault x2_Fault x3_Fault x5_Fault "ValueError.__new__"))
    (sa_Fault : PySem.W.findIn K (.ref c_Fault) "__setattr__" = some (some (.builtin "object.__setattr__"))) (ga_Fault : PySem.W.findIn K (.ref c_Fault) "__getattribute__" = some (some (.builtin "BaseException.__getattribute__"))) (gg_Fault : PySem.W.findIn K (.ref c_Fault) "__getattr__" = some none)
    (kC_Fault : PySem.W.keepIn K (.ref c_Fault) = true) (eC_Fault : PySem.W.subIn K (.ref c_Fault) (.type "BaseException") = some true) (tC_Fault : PySem.W.typeIn K (.ref c_Fault) = some (.type "type")) (hC_Fault : PySem.W.hasDictIn K c_Fault = true) (iC_Fault : PySem.W.isClsIn K c_Fault = true) (sC_Fault : PySem.W.subIn K (.ref c_Fault) (.ref c_Fault) = some true)
    (rd_WholeError : PySem.W.readsIn K c_WholeError (.type "type") = true) (sg_WholeError : PySem.W.specialIn K (.ref c_WholeError) "__getattribute__" = some (some (.builtin "type.__getattribute__"))) (vi_WholeError : PySem.W.findCls K (.ref c_WholeError) (.type "type") "__init__" = some (.val (.builtin "ValueError.__init__")))
    (na_Fault_stage : PySem.W.findIn K (.ref c_Fault) "stage" = some none)
    (na_Fault_file : PySem.W.findIn K (.ref c_Fault) "file" = some none)
    (na_Fault_place : PySem.W.findIn K (.ref c_Fault) "place" = some none)
    (na_Fault_why : PySem.W.findIn K (.ref c_Fault) "why" = some none)
    {f_Fault___init__ : Addr} {od_Fault___init__ an_Fault___init__ : Option Addr} {sl_Fault___init__ : Array (Option Value)} {oc_Fault___init__ kV_Fault___init__ dc_Fault___init__ pm_Fault___init__ cd_Fault___init__ ct_Fault___init__ : Value}
    (a_Fault___init__ : PySem.W.findIn K (.ref c_Fault) "__init__" = some (some (.ref f_Fault___init__)))
    (l_Fault___init__ : K.lookup f_Fault___init__ = some ⟨oc_Fault___init__, od_Fault___init__, .func (PySem.W.fnOf "__init__" "Fault.__init__" (defArgs s_Fault___init__) (defBody s_Fault___init__) (defScope s_Fault___init__) .none kV_Fault___init__ dc_Fault___init__ pm_Fault___init__ an_Fault___init__ cd_Fault___init__ ct_Fault___init__), sl_Fault___init__⟩) (c_Fault___init__ : PySem.W.codeIn K cd_Fault___init__ "Fault.__init__" = true) (k_Fault___init__ : PySem.W.keepIn K (.ref f_Fault___init__) = true)
    (i_Fault___init__ : PySem.W.typeIn K (.ref f_Fault___init__) = some (.type "function"))
    {f_run_of : Addr} {od_run_of an_run_of : Option Addr} {sl_run_of : Array (Option Value)} {oc_run_of kV_run_of dc_run_of pm_run_of cd_run_of ct_run_of : Value}
    (a_run_of : PySem.W.nsIn K mainGlobals "run_of" = some (some (.ref f_run_of)))
    (l_run_of : K.lookup f_run_of = some ⟨oc_run_of, od_run_of, .func (PySem.W.fnOf "run_of" "run_of" (defArgs s_run_of) (defBody s_run_of) (defScope s_run_of) .none kV_run_of dc_run_of pm_run_of an_run_of cd_run_of ct_run_of), sl_run_of⟩) (c_run_of : PySem.W.codeIn K cd_run_of "run_of" = true) (k_run_of : PySem.W.keepIn K (.ref f_run_of) = true)
    {f_word_at : Addr} {od_word_at an_word_at : Option Addr} {sl_word_at : Array (Option Value)} {oc_word_at kV_word_at dc_word_at pm_word_at cd_word_at ct_word_at : Value}
    (a_word_at : PySem.W.nsIn K mainGlobals "word_at" = some (some (.ref f_word_at)))
    (l_word_at : K.lookup f_word_at = some ⟨oc_word_at, od_word_at, .func (PySem.W.fnOf "word_at" "word_at" (defArgs s_word_at) (defBody s_word_at) (defScope s_word_at) .none kV_word_at dc_word_at pm_word_at an_word_at cd_word_at ct_word_at), sl_word_at⟩) (c_word_at : PySem.W.codeIn K cd_word_at "word_at" = true) (k_word_at : PySem.W.keepIn K (.ref f_word_at) = true)
    {f_words_in : Addr} {od_words_in an_words_in : Option Addr} {sl_words_in : Array (Option Value)} {oc_words_in kV_words_in dc_words_in pm_words_in cd_words_in ct_words_in : Value}
    (a_words_in : PySem.W.nsIn K mainGlobals "words_in" = some (some (.ref f_words_in)))
    (l_words_in : K.lookup f_words_in = some ⟨oc_words_in, od_words_in, .func (PySem.W.fnOf "words_in" "words_in" (defArgs s_words_in) (defBody s_words_in) (defScope s_words_in) .none kV_words_in dc_words_in pm_words_in an_words_in cd_words_in ct_words_in), sl_words_in⟩) (c_words_in : PySem.W.codeIn K cd_words_in "words_in" = true) (k_words_in : PySem.W.keepIn K (.ref f_words_in) = true)
    {f_word_rows : Addr} {od_word_rows an_word_rows : Option Addr} {sl_word_rows : Array (Option Value)} {oc_word_rows kV_word_rows dc_word_rows pm_word_rows cd_word_rows ct_word_rows : Value}
    (a_word_rows : PySem.W.nsIn K mainGlobals "word_rows" = some (some (.ref f_word_rows)))
    (l_word_rows : K.lookup f_word_rows = some ⟨oc_word_rows, od_word_rows, .func (PySem.W.fnOf "word_rows" "word_rows" (defArgs s_word_rows) (defBody s_word_rows) (defScope s_word_rows) .none kV_word_rows dc_word_rows pm_word_rows an_word_rows cd_word_rows ct_word_rows), sl_word_rows⟩) (c_word_rows : PySem.W.codeIn K cd_word_rows "word_rows" = true) (k_word_rows : PySem.W.keepIn K (.ref f_word_rows) = true)
    {f_words_of : Addr} {od_words_of an_words_of : Option Addr} {sl_words_of : Array (Option Value)} {oc_words_of kV_words_of dc_words_of pm_words_of cd_words_of ct_words_of : Value}
    (a_words_of : PySem.W.nsIn K mainGlobals "words_of" = some (some (.ref f_words_of)))
    (l_words_of : K.lookup f_words_of = some ⟨oc_words_of, od_words_of, .func (PySem.W.fnOf "words_of" "words_of" (defArgs s_words_of) (defBody s_words_of) (defScope s_words_of) .none kV_words_of dc_words_of pm_words_of an_words_of cd_words_of ct_words_of), sl_words_of⟩) (c_words_of : PySem.W.codeIn K cd_words_of "words_of" = true) (k_words_of : PySem.W.keepIn K (.ref f_words_of) = true)
    {f__law_dice : Addr} {od__law_dice an__law_dice : Option Addr} {sl__law_dice : Array (Option Value)} {oc__law_dice kV__law_dice dc__law_dice pm__law_dice cd__law_dice ct__law_dice : Value}
    (a__law_dice : PySem.W.nsIn K mainGlobals "_law_dice" = some (some (.ref f__law_dice)))
    (l__law_dice : K.lookup f__law_dice = some ⟨oc__law_dice, od__law_dice, .func (PySem.W.fnOf "_law_dice" "_law_dice" (defArgs s__law_dice) (defBody s__law_dice) (defScope s__law_dice) .none kV__law_dice dc__law_dice pm__law_dice an__law_dice cd__law_dice ct__law_dice), sl__law_dice⟩) (c__law_dice : PySem.W.codeIn K cd__law_dice "_law_dice" = true) (k__law_dice : PySem.W.keepIn K (.ref f__law_dice) = true)
    {f__law_next : Addr} {od__law_next an__law_next : Option Addr} {sl__law_next : Array (Option Value)} {oc__law_next kV__law_next dc__law_next pm__law_next cd__law_next ct__law_next : Value}
    (a__law_next : PySem.W.nsIn K mainGlobals "_law_next" = some (some (.ref f__law_next)))
    (l__law_next : K.lookup f__law_next = some ⟨oc__law_next, od__law_next, .func (PySem.W.fnOf "_law_next" "_law_next" (defArgs s__law_next) (defBody s__law_next) (defScope s__law_next) .none kV__law_next dc__law_next pm__law_next an__law_next cd__law_next ct__law_next), sl__law_next⟩) (c__law_next : PySem.W.codeIn K cd__law_next "_law_next" = true) (k__law_next : PySem.W.keepIn K (.ref f__law_next) = true)
    {f__law_like : Addr} {od__law_like an__law_like : Option Addr} {sl__law_like : Array (Option Value)} {oc__law_like kV__law_like dc__law_like pm__law_like cd__law_like ct__law_like : Value}
    (a__law_like : PySem.W.nsIn K mainGlobals "_law_like" = some (some (.ref f__law_like)))
    (l__law_like : K.lookup f__law_like = some ⟨oc__law_like, od__law_like, .func (PySem.W.fnOf "_law_like" "_law_like" (defArgs s__law_like) (defBody s__law_like) (defScope s__law_like) .none kV__law_like dc__law_like pm__law_like an__law_like cd__law_like ct__law_like), sl__law_like⟩) (c__law_like : PySem.W.codeIn K cd__law_like "_law_like" = true) (k__law_like : PySem.W.keepIn K (.ref f__law_like) = true)
    {f__law_pick : Addr} {od__law_pick an__law_pick : Option Addr} {sl__law_pick : Array (Option Value)} {oc__law_pick kV__law_pick dc__law_pick pm__law_pick cd__law_pick ct__law_pick : Value}
    (a__law_pick : PySem.W.nsIn K mainGlobals "_law_pick" = some (some (.ref f__law_pick)))
    (l__law_pick : K.lookup f__law_pick = some ⟨oc__law_pick, od__law_pick, .func (PySem.W.fnOf "_law_pick" "_law_pick" (defArgs s__law_pick) (defBody s__law_pick) (defScope s__law_pick) .none kV__law_pick dc__law_pick pm__law_pick an__law_pick cd__law_pick ct__law_pick), sl__law_pick⟩) (c__law_pick : PySem.W.codeIn K cd__law_pick "_law_pick" = true) (k__law_pick : PySem.W.keepIn K (.ref f__law_pick) = true)
    {f__law_told : Addr} {od__law_told an__law_told : Option Addr} {sl__law_told : Array (Option Value)} {oc__law_told kV__law_told dc__law_told pm__law_told cd__law_told ct__law_told : Value}
    (a__law_told : PySem.W.nsIn K mainGlobals "_law_told" = some (some (.ref f__law_told)))
    (l__law_told : K.lookup f__law_told = some ⟨oc__law_told, od__law_told, .func (PySem.W.fnOf "_law_told" "_law_told" (defArgs s__law_told) (defBody s__law_told) (defScope s__law_told) .none kV__law_told dc__law_told pm__law_told an__law_told cd__law_told ct__law_told), sl__law_told⟩) (c__law_told : PySem.W.codeIn K cd__law_told "_law_told" = true) (k__law_told : PySem.W.keepIn K (.ref f__law_told) = true)
    {f__law_scan : Addr} {od__law_scan an__law_scan : Option Addr} {sl__law_scan : Array (Option Value)} {oc__law_scan kV__law_scan dc__law_scan pm__law_scan cd__law_scan ct__law_scan : Value}
    (a__law_scan : PySem.W.nsIn K mainGlobals "_law_scan" = some (some (.ref f__law_scan)))
    (l__law_scan : K.lookup f__law_scan = some ⟨oc__law_scan, od__law_scan, .func (PySem.W.fnOf "_law_scan" "_law_scan" (defArgs s__law_scan) (defBody s__law_scan) (defScope s__law_scan) .none kV__law_scan dc__law_scan pm__law_scan an__law_scan cd__law_scan ct__law_scan), sl__law_scan⟩) (c__law_scan : PySem.W.codeIn K cd__law_scan "_law_scan" = true) (k__law_scan : PySem.W.keepIn K (.ref f__law_scan) = true)
    {f_law : Addr} {od_law an_law : Option Addr} {sl_law : Array (Option Value)} {oc_law kV_law dc_law pm_law ct_law : Value}
    (a_law : PySem.W.nsIn K mainGlobals "law" = some (some (.ref f_law)))
    {co_law tb_law : Addr} {ce_law : Value} {cx_law : Option Addr} {cv_law : Array Value} {cs_law : Array (Option Value)} (l_law : K.lookup f_law = some ⟨oc_law, od_law, .func (PySem.W.fnOf "law" "law" (defArgs s_law) (defBody s_law) (defScope s_law) .none kV_law dc_law pm_law an_law (.ref co_law) ct_law), sl_law⟩) (c_law : PySem.W.codeIn K (.ref co_law) "law" = true) (k_law : PySem.W.keepIn K (.ref f_law) = true)
    (lc_law : K.lookup co_law = some ⟨ce_law, cx_law, .fields cv_law, cs_law⟩) (lt_law : cv_law[11]? = some (.ref tb_law)) (ln_law : K.lookup tb_law = none)
    (n_len : PySem.W.nsIn K mainGlobals "len" = some none)
    (n_enumerate : PySem.W.nsIn K mainGlobals "enumerate" = some none)
    (n_int : PySem.W.nsIn K mainGlobals "int" = some none)
    (n_isinstance : PySem.W.nsIn K mainGlobals "isinstance" = some none)
    (n_tuple : PySem.W.nsIn K mainGlobals "tuple" = some none)
    (n_list : PySem.W.nsIn K mainGlobals "list" = some none)
    (n_bool : PySem.W.nsIn K mainGlobals "bool" = some none)
    (n_str : PySem.W.nsIn K mainGlobals "str" = some none)
    (n_range : PySem.W.nsIn K mainGlobals "range" = some none)
    {a_SIGNS : Addr} {its_SIGNS : Array Value} {n_SIGNS : Nat} {od_SIGNS : Option Addr} {sl_SIGNS : Array (Option Value)} (m_SIGNS : PySem.W.nsIn K mainGlobals "SIGNS" = some (some (.ref a_SIGNS))) (l_SIGNS : K.lookup a_SIGNS = some ⟨.type "tuple", od_SIGNS, .seq its_SIGNS n_SIGNS, sl_SIGNS⟩) (s_SIGNS : its_SIGNS.size ≤ 16000000) (v_SIGNS : Vals [V.str "<>", V.str "<=", V.str "(", V.str ")", V.str ",", V.str ".", V.str "=", V.str "<", V.str "+", V.str "-", V.str "*", V.str "/"] its_SIGNS.toList)
    {z_LETTERS : Tok} (m_LETTERS : PySem.W.nsIn K mainGlobals "LETTERS" = some (some (Value.str "abcdefghijklmnopqrstuvwxyz" z_LETTERS)))
    {z_FIGURES : Tok} (m_FIGURES : PySem.W.nsIn K mainGlobals "FIGURES" = some (some (Value.str "0123456789" z_FIGURES)))
    {a_OWN : Addr} {es_OWN : Array DictEntry} {n_OWN : Nat} (m_OWN : PySem.W.nsIn K mainGlobals "OWN" = some (some (.ref a_OWN))) (l_OWN : K.lookup a_OWN = some ⟨.type "dict", none, .dict es_OWN n_OWN, #[]⟩) (e_OWN : PySem.W.KeysLit w.params es_OWN.toList) (o_OWN : (a_OWN == sysModules) = false) (v_OWN : KeyList es_OWN.toList ["use", "const", "keep", "out", "def", "num", "yes", "no", "let", "if", "else", "while", "end", "give", "say", "do", "or", "and", "not", "mod"])
    {z_LONG : Tok} (m_LONG : PySem.W.nsIn K mainGlobals "LONG" = some (some (Value.int 6 z_LONG)))
    {z_REMARK : Tok} (m_REMARK : PySem.W.nsIn K mainGlobals "REMARK" = some (some (Value.str "#" z_REMARK)))
    : ∃ (fd : FuncData) (c P : Addr) (qs : Str), PySem.W.tabIn K "law" = some (c, P) ∧ K.lookup P = none ∧ (∀ (s : Shared) (v : Value), BindsTo s fd ⟨[v], []⟩ [("_law_script", v)]) ∧ ∀ base : Heap, K.In base → base.Ns mainGlobals mg → LamX.TabB base mg c P → FnOk l.prog w K mg base CX0 10 fa fd ["_law_script"] (liftSp K (spLawT P qs)) := by
  have e := hfa.symm.trans (PySem.W.mg_of X G a_law)
  cases e
  exact ⟨(PySem.W.fnOf "law" "law" (defArgs s_law) (defBody s_law) (defScope s_law) .none kV_law dc_law pm_law an_law (.ref co_law) ct_law), co_law, tb_law, _, DL.tabIn_of a_law l_law rfl lc_law lt_law, ln_law, fun s v => .of_eq rfl, fun base _ _ TB => l_ok ({ c_Fault := c_Fault, cm_Fault := PySem.W.mg_of X G cm_Fault, c_WholeError := c_WholeError, cm_WholeError := PySem.W.mg_of X G cm_WholeError, oe_Fault := ⟨⟨_, _, _, _, _, _, _, _, _, _, _, _, _, _, _, xL_Fault, by first | rfl | decide +kernel⟩, sa_Fault, eC_Fault, tC_Fault, kC_Fault⟩, xf_Fault := ⟨ga_Fault, gg_Fault, eC_Fault, hC_Fault⟩, te_Fault := exm_self eC_Fault iC_Fault tC_Fault sC_Fault, mc_WholeError := .type "type", cr_WholeError := ⟨rd_WholeError, sg_WholeError⟩, vi_WholeError := vi_WholeError, na_Fault_stage := na_Fault_stage, na_Fault_file := na_Fault_file, na_Fault_place := na_Fault_place, na_Fault_why := na_Fault_why, f_Fault___init__ := f_Fault___init__, d_Fault___init__ := (PySem.W.fnOf "__init__" "Fault.__init__" (defArgs s_Fault___init__) (defBody s_Fault___init__) (defScope s_Fault___init__) .none kV_Fault___init__ dc_Fault___init__ pm_Fault___init__ an_Fault___init__ cd_Fault___init__ ct_Fault___init__), t_Fault___init__ := ⟨fun_mk (st := s_Fault___init__) l_Fault___init__ c_Fault___init__ k_Fault___init__, (fun_mk (st := s_Fault___init__) l_Fault___init__ c_Fault___init__ k_Fault___init__).binds (ps := ["self", "stage", "file", "place", "why"]) (fun _ _ _ _ _ _ us hl => match us, hl with | [_, _, _, _, _], _ => rfl), a_Fault___init__, i_Fault___init__⟩, f_run_of := f_run_of, d_run_of := (PySem.W.fnOf "run_of" "run_of" (defArgs s_run_of) (defBody s_run_of) (defScope s_run_of) .none kV_run_of dc_run_of pm_run_of an_run_of cd_run_of ct_run_of), t_run_of := ⟨fun_mk (st := s_run_of) l_run_of c_run_of k_run_of, (fun_mk (st := s_run_of) l_run_of c_run_of k_run_of).binds (ps := ["row", "at", "signs"]) (fun _ _ _ _ _ _ us hl => match us, hl with | [_, _, _], _ => rfl), PySem.W.mg_of X G a_run_of⟩, f_word_at := f_word_at, d_word_at := (PySem.W.fnOf "word_at" "word_at" (defArgs s_word_at) (defBody s_word_at) (defScope s_word_at) .none kV_word_at dc_word_at pm_word_at an_word_at cd_word_at ct_word_at), t_word_at := ⟨fun_mk (st := s_word_at) l_word_at c_word_at k_word_at, (fun_mk (st := s_word_at) l_word_at c_word_at k_word_at).binds (ps := ["row", "at"]) (fun _ _ _ _ _ _ us hl => match us, hl with | [_, _], _ => rfl), PySem.W.mg_of X G a_word_at⟩, f_words_in := f_words_in, d_words_in := (PySem.W.fnOf "words_in" "words_in" (defArgs s_words_in) (defBody s_words_in) (defScope s_words_in) .none kV_words_in dc_words_in pm_words_in an_words_in cd_words_in ct_words_in), t_words_in := ⟨fun_mk (st := s_words_in) l_words_in c_words_in k_words_in, (fun_mk (st := s_words_in) l_words_in c_words_in k_words_in).binds (ps := ["row", "number"]) (fun _ _ _ _ _ _ us hl => match us, hl with | [_, _], _ => rfl), PySem.W.mg_of X G a_words_in⟩, f_word_rows := f_word_rows, d_word_rows := (PySem.W.fnOf "word_rows" "word_rows" (defArgs s_word_rows) (defBody s_word_rows) (defScope s_word_rows) .none kV_word_rows dc_word_rows pm_word_rows an_word_rows cd_word_rows ct_word_rows), t_word_rows := ⟨fun_mk (st := s_word_rows) l_word_rows c_word_rows k_word_rows, (fun_mk (st := s_word_rows) l_word_rows c_word_rows k_word_rows).binds (ps := ["text"]) (fun _ _ _ _ _ _ us hl => match us, hl with | [_], _ => rfl), PySem.W.mg_of X G a_word_rows⟩, f_words_of := f_words_of, d_words_of := (PySem.W.fnOf "words_of" "words_of" (defArgs s_words_of) (defBody s_words_of) (defScope s_words_of) .none kV_words_of dc_words_of pm_words_of an_words_of cd_words_of ct_words_of), t_words_of := ⟨fun_mk (st := s_words_of) l_words_of c_words_of k_words_of, (fun_mk (st := s_words_of) l_words_of c_words_of k_words_of).binds (ps := ["text"]) (fun _ _ _ _ _ _ us hl => match us, hl with | [_], _ => rfl), PySem.W.mg_of X G a_words_of⟩, f__law_dice := f__law_dice, d__law_dice := (PySem.W.fnOf "_law_dice" "_law_dice" (defArgs s__law_dice) (defBody s__law_dice) (defScope s__law_dice) .none kV__law_dice dc__law_dice pm__law_dice an__law_dice cd__law_dice ct__law_dice), t__law_dice := ⟨fun_mk (st := s__law_dice) l__law_dice c__law_dice k__law_dice, (fun_mk (st := s__law_dice) l__law_dice c__law_dice k__law_dice).binds (ps := ["_law_script"]) (fun _ _ _ _ _ _ us hl => match us, hl with | [_], _ => rfl), PySem.W.mg_of X G a__law_dice⟩, f__law_next := f__law_next, d__law_next := (PySem.W.fnOf "_law_next" "_law_next" (defArgs s__law_next) (defBody s__law_next) (defScope s__law_next) .none kV__law_next dc__law_next pm__law_next an__law_next cd__law_next ct__law_next), t__law_next := ⟨fun_mk (st := s__law_next) l__law_next c__law_next k__law_next, (fun_mk (st := s__law_next) l__law_next c__law_next k__law_next).binds (ps := ["_law_dice_here", "_law_many"]) (fun _ _ _ _ _ _ us hl => match us, hl with | [_, _], _ => rfl), PySem.W.mg_of X G a__law_next⟩, f__law_like := f__law_like, d__law_like := (PySem.W.fnOf "_law_like" "_law_like" (defArgs s__law_like) (defBody s__law_like) (defScope s__law_like) .none kV__law_like dc__law_like pm__law_like an__law_like cd__law_like ct__law_like), t__law_like := ⟨fun_mk (st := s__law_like) l__law_like c__law_like k__law_like, (fun_mk (st := s__law_like) l__law_like c__law_like k__law_like).binds (ps := ["_law_found", "_law_due"]) (fun _ _ _ _ _ _ us hl => match us, hl with | [_, _], _ => rfl), PySem.W.mg_of X G a__law_like⟩, f__law_pick := f__law_pick, d__law_pick := (PySem.W.fnOf "_law_pick" "_law_pick" (defArgs s__law_pick) (defBody s__law_pick) (defScope s__law_pick) .none kV__law_pick dc__law_pick pm__law_pick an__law_pick cd__law_pick ct__law_pick), t__law_pick := ⟨fun_mk (st := s__law_pick) l__law_pick c__law_pick k__law_pick, (fun_mk (st := s__law_pick) l__law_pick c__law_pick k__law_pick).binds (ps := ["_law_d", "_law_some"]) (fun _ _ _ _ _ _ us hl => match us, hl with | [_, _], _ => rfl), PySem.W.mg_of X G a__law_pick⟩, f__law_told := f__law_told, d__law_told := (PySem.W.fnOf "_law_told" "_law_told" (defArgs s__law_told) (defBody s__law_told) (defScope s__law_told) .none kV__law_told dc__law_told pm__law_told an__law_told cd__law_told ct__law_told), t__law_told := ⟨fun_mk (st := s__law_told) l__law_told c__law_told k__law_told, (fun_mk (st := s__law_told) l__law_told c__law_told k__law_told).binds (ps := ["_law_work"]) (fun _ _ _ _ _ _ us hl => match us, hl with | [_], _ => rfl), PySem.W.mg_of X G a__law_told⟩, f__law_scan := f__law_scan, d__law_scan := (PySem.W.fnOf "_law_scan" "_law_scan" (defArgs s__law_scan) (defBody s__law_scan) (defScope s__law_scan) .none kV__law_scan dc__law_scan pm__law_scan an__law_scan cd__law_scan ct__law_scan), t__law_scan := ⟨fun_mk (st := s__law_scan) l__law_scan c__law_scan k__law_scan, (fun_mk (st := s__law_scan) l__law_scan c__law_scan k__law_scan).binds (ps := ["_law_text"]) (fun _ _ _ _ _ _ us hl => match us, hl with | [_], _ => rfl), PySem.W.mg_of X G a__law_scan⟩, co_law := co_law, c_tb_law := tb_law, hc_law := rfl, f_law := fa, d_law := (PySem.W.fnOf "law" "law" (defArgs s_law) (defBody s_law) (defScope s_law) .none kV_law dc_law pm_law an_law (.ref co_law) ct_law), t_law := ⟨fun_mk (st := s_law) l_law c_law k_law, (fun_mk (st := s_law) l_law c_law k_law).binds (ps := ["_law_script"]) (fun _ _ _ _ _ _ us hl => match us, hl with | [_], _ => rfl), PySem.W.mg_of X G a_law⟩, n_len := PySem.W.mg_none_of X G n_len, n_enumerate := PySem.W.mg_none_of X G n_enumerate, n_int := PySem.W.mg_none_of X G n_int, n_isinstance := PySem.W.mg_none_of X G n_isinstance, n_tuple := PySem.W.mg_none_of X G n_tuple, n_list := PySem.W.mg_none_of X G n_list, n_bool := PySem.W.mg_none_of X G n_bool, n_str := PySem.W.mg_none_of X G n_str, n_range := PySem.W.mg_none_of X G n_range, a_SIGNS := a_SIGNS, m_SIGNS := PySem.W.mg_of X G m_SIGNS, k_SIGNS := ⟨_, its_SIGNS, n_SIGNS, l_SIGNS, rfl, rfl, line_of s_SIGNS, v_SIGNS⟩, z_LETTERS := z_LETTERS, m_LETTERS := PySem.W.mg_of X G m_LETTERS, z_FIGURES := z_FIGURES, m_FIGURES := PySem.W.mg_of X G m_FIGURES, a_OWN := a_OWN, m_OWN := PySem.W.mg_of X G m_OWN, k_OWN := ⟨es_OWN, n_OWN, ⟨l_OWN, e_OWN, o_OWN⟩, v_OWN⟩, z_LONG := z_LONG, m_LONG := PySem.W.mg_of X G m_LONG, z_REMARK := z_REMARK, m_REMARK := PySem.W.mg_of X G m_REMARK } : Tx K w mg) TB⟩
end W1
open PySem PySem.W PyProof.Rows
set_option maxRecDepth 100000 in
set_option maxHeartbeats 0 in
theorem PySem.Challenge.cw_wholetongue_k02_no_words_holds : PySem.Challenge.rw_wholetongue_k02_no_words.Holds := by
  w_on; o_law; k_head; (case hw => w_witness2)
  k_fill
  refine DL.walkT "law" (k := 10) (l := PySem.Challenge.rw_wholetongue_k02_no_words) (by decide) rfl rfl (by decide +kernel) (fun w h Y => by first | exact PySem.W.kIn_of Y | exact PySem.W.km_in_of Y) ?F
  case F =>
    intro w mg fa h KX G hmg
    refine' W1.all_mk KX G hmg ?cm_Fault ?cm_WholeError ?xL_Fault ?sa_Fault ?ga_Fault ?gg_Fault ?kC_Fault ?eC_Fault ?tC_Fault ?hC_Fault ?iC_Fault ?sC_Fault ?rd_WholeError ?sg_WholeError ?vi_WholeError ?na_Fault_stage ?na_Fault_file ?na_Fault_place ?na_Fault_why ?a_Fault___init__ ?l_Fault___init__ ?c_Fault___init__ ?k_Fault___init__ ?i_Fault___init__ ?a_run_of ?l_run_of ?c_run_of ?k_run_of ?a_word_at ?l_word_at ?c_word_at ?k_word_at ?a_words_in ?l_words_in ?c_words_in ?k_words_in ?a_word_rows ?l_word_rows ?c_word_rows ?k_word_rows ?a_words_of ?l_words_of ?c_words_of ?k_words_of ?a__law_dice ?l__law_dice ?c__law_dice ?k__law_dice ?a__law_next ?l__law_next ?c__law_next ?k__law_next ?a__law_like ?l__law_like ?c__law_like ?k__law_like ?a__law_pick ?l__law_pick ?c__law_pick ?k__law_pick ?a__law_told ?l__law_told ?c__law_told ?k__law_told ?a__law_scan ?l__law_scan ?c__law_scan ?k__law_scan ?a_law ?l_law ?c_law ?k_law ?lc_law ?lt_law ?ln_law ?n_len ?n_enumerate ?n_int ?n_isinstance ?n_tuple ?n_list ?n_bool ?n_str ?n_range ?m_SIGNS ?l_SIGNS ?s_SIGNS ?v_SIGNS ?m_LETTERS ?m_FIGURES ?m_OWN ?l_OWN ?e_OWN ?o_OWN ?v_OWN ?m_LONG ?m_REMARK
    (case cm_Fault => k_is)
    (case cm_WholeError => k_is)
    (case xL_Fault => k_is)
    (case sa_Fault => k_is)
    (case ga_Fault => k_is)
    (case gg_Fault => k_is)
    (case kC_Fault => k_is)
    (case eC_Fault => k_is)
    (case tC_Fault => k_is)
    (case hC_Fault => k_is)
    (case iC_Fault => k_is)
    (case sC_Fault => first | rfl | k_is)
    (case rd_WholeError => k_is)
    (case sg_WholeError => k_is)
    (case vi_WholeError => k_is)
    (case na_Fault_stage => k_is)
    (case na_Fault_file => k_is)
    (case na_Fault_place => k_is)
    (case na_Fault_why => k_is)
    (case a_Fault___init__ => k_is)
    (case l_Fault___init__ => k_is)
    (case c_Fault___init__ => k_is)
    (case k_Fault___init__ => k_is)
    (case i_Fault___init__ => k_is)
    (case a_run_of => k_is)
    (case l_run_of => k_is)
    (case c_run_of => k_is)
    (case k_run_of => k_is)
    (case a_word_at => k_is)
    (case l_word_at => k_is)
    (case c_word_at => k_is)
    (case k_word_at => k_is)
    (case a_words_in => k_is)
    (case l_words_in => k_is)
    (case c_words_in => k_is)
    (case k_words_in => k_is)
    (case a_word_rows => k_is)
    (case l_word_rows => k_is)
    (case c_word_rows => k_is)
    (case k_word_rows => k_is)
    (case a_words_of => k_is)
    (case l_words_of => k_is)
    (case c_words_of => k_is)
    (case k_words_of => k_is)
    (case a__law_dice => k_is)
    (case l__law_dice => k_is)
    (case c__law_dice => k_is)
    (case k__law_dice => k_is)
    (case a__law_next => k_is)
    (case l__law_next => k_is)
    (case c__law_next => k_is)
    (case k__law_next => k_is)
    (case a__law_like => k_is)
    (case l__law_like => k_is)
    (case c__law_like => k_is)
    (case k__law_like => k_is)
    (case a__law_pick => k_is)
    (case l__law_pick => k_is)
    (case c__law_pick => k_is)
    (case k__law_pick => k_is)
    (case a__law_told => k_is)
    (case l__law_told => k_is)
    (case c__law_told => k_is)
    (case k__law_told => k_is)
    (case a__law_scan => k_is)
    (case l__law_scan => k_is)
    (case c__law_scan => k_is)
    (case k__law_scan => k_is)
    (case a_law => k_is)
    (case l_law => k_is)
    (case c_law => k_is)
    (case k_law => k_is)
    (case lc_law => k_is)
    (case lt_law => exact rfl)
    (case ln_law => first | exact rfl | kernel_rfl)
    (case n_len => k_is)
    (case n_enumerate => k_is)
    (case n_int => k_is)
    (case n_isinstance => k_is)
    (case n_tuple => k_is)
    (case n_list => k_is)
    (case n_bool => k_is)
    (case n_str => k_is)
    (case n_range => k_is)
    (case m_SIGNS => k_is)
    (case l_SIGNS => k_is)
    (case s_SIGNS => decide)
    (case v_SIGNS => exact (.cons ⟨_, rfl⟩ (.cons ⟨_, rfl⟩ (.cons ⟨_, rfl⟩ (.cons ⟨_, rfl⟩ (.cons ⟨_, rfl⟩ (.cons ⟨_, rfl⟩ (.cons ⟨_, rfl⟩ (.cons ⟨_, rfl⟩ (.cons ⟨_, rfl⟩ (.cons ⟨_, rfl⟩ (.cons ⟨_, rfl⟩ (.cons ⟨_, rfl⟩ .nil)))))))))))))
    (case m_LETTERS => k_is)
    (case m_FIGURES => k_is)
    (case m_OWN => k_is)
    (case l_OWN => k_is)
    (case e_OWN => k_keys)
    (case o_OWN => decide)
    (case v_OWN => (repeat (first | exact True.intro | refine And.intro ⟨_, rfl⟩ ?_)))
    (case m_LONG => k_is)
    (case m_REMARK => k_is)

