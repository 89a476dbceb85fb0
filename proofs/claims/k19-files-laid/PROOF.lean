import PyProof.Rows.All
import Wide.All
import OpenK.AllK
import Wide.FinOn
import HandS.ForMost
import HandS.WordsExc
import HandS.Lambda
import HandS.TupAny
import HandS.More
import HandS.IsInst
import HandS.TryOnly
import HandS.Style
import HandS.List
import HandS.EndOwn
import KE.KNestM
import HandS.ExcInit
import HandS.ExcField
import HandS.ClsMeth
import HandS.Defaults
import HandS.DictComp
import HandS.WordsDict
import HandS.Text
import KE.KUnpackStar
import HandS.ExcOwn
import HandS.TupLe
import PyProof.Rows.StrMeet
import HandS.ExcIs
import HandS.StrMore
import KE.KIntText
import PyProof.P3Eq
import KE.SortData
import HandS.SortRule
import PySem.Challenge.RW_wholetongue_k19_files_laid_and_edited
set_option Elab.async false
set_option linter.all false
set_option maxRecDepth 100000
namespace DL
open PySem PySem.Spec PyProof.Rows L2
inductive DV where
  | non | bl (b : Bool) | int (i : Int) | str (x : Str)
  | tup (xs : List DV) | lst (xs : List DV) | slst (xs : List DV) | stup (xs : List DV)
  | dK (kvs : List (Key × DV)) | dT (kvs : List (List Key × DV))
  | ref (a : Addr) | ty (n : String)
def Sub (F F' : Hp) : Prop := ∀ a o, F a = some o → F' a = some o
theorem Sub.refl (F : Hp) : Sub F F := fun _ _ h => h
theorem Sub.trans {F G H : Hp} (a : Sub F G) (b : Sub G H) : Sub F H := fun x o h => b x o (a x o h)
theorem Sub.upd {F : Hp} {p : Addr} {o : HO} (h : F p = none) : Sub F (upd F p o) := fun a u e => by
  rw [upd_ne (fun z => by subst z; rw [h] at e; cases e)]; exact e
theorem SqL.sub {K : PySem.W.Frag} {F F' : Hp} {a : Addr} {xs : List V} (s : Sub F F') (h : SqL K F a xs) : SqL K F' a xs := by
  rcases h with (h | ⟨o, h⟩) | h
  · exact .inl (.inl (s _ _ h))
  · exact .inl (.inr ⟨o, s _ _ h⟩)
  · exact .inr h
theorem SqT.sub {K : PySem.W.Frag} {F F' : Hp} {a : Addr} {xs : List V} (s : Sub F F') (h : SqT K F a xs) : SqT K F' a xs := by
  rcases h with (h | ⟨o, h⟩) | h
  · exact .inl (.inl (s _ _ h))
  · exact .inl (.inr ⟨o, s _ _ h⟩)
  · exact .inr h
mutual
inductive Rep (K : PySem.W.Frag) (F : Hp) : V → DV → Prop
  | non : Rep K F .non .non
  | bl (b : Bool) : Rep K F (.bl b) (.bl b)
  | int (i : Int) : Rep K F (.int i) (.int i)
  | str (x : Str) : Rep K F (.str x) (.str x)
  | ref (a : Addr) : Rep K F (.ref a) (.ref a)
  | ty (n : String) : Rep K F (.ty n) (.ty n)
  | tup {a : Addr} {vs : List V} {ds : List DV} : F a = some (.tup vs) → Reps K F vs ds → Rep K F (.ref a) (.tup ds)
  | stup {a : Addr} {vs : List V} {ds : List DV} : SqT K F a vs → Reps K F vs ds → Rep K F (.ref a) (.stup ds)
  | lst {a : Addr} {vs : List V} {ds : List DV} : F a = some (.lst vs) → Reps K F vs ds → Rep K F (.ref a) (.lst ds)
  | slst {a : Addr} {vs : List V} {ds : List DV} : SqL K F a vs → Reps K F vs ds → Rep K F (.ref a) (.slst ds)
  | dK {a : Addr} {kvs : List (Key × V)} {es : List (Key × DV)} : F a = some (.dK kvs) → RepK K F kvs es → Rep K F (.ref a) (.dK es)
  | dT {a : Addr} {kvs : List (List Key × V)} {es : List (List Key × DV)} : F a = some (.dT kvs) → RepT K F kvs es → Rep K F (.ref a) (.dT es)
inductive Reps (K : PySem.W.Frag) (F : Hp) : List V → List DV → Prop
  | nil : Reps K F [] []
  | cons {v : V} {d : DV} {vs : List V} {ds : List DV} : Rep K F v d → Reps K F vs ds → Reps K F (v :: vs) (d :: ds)
inductive RepK (K : PySem.W.Frag) (F : Hp) : List (Key × V) → List (Key × DV) → Prop
  | nil : RepK K F [] []
  | cons {k : Key} {v : V} {d : DV} {vs : List (Key × V)} {ds : List (Key × DV)} : Rep K F v d → RepK K F vs ds → RepK K F ((k, v) :: vs) ((k, d) :: ds)
inductive RepT (K : PySem.W.Frag) (F : Hp) : List (List Key × V) → List (List Key × DV) → Prop
  | nil : RepT K F [] []
  | cons {k : List Key} {v : V} {d : DV} {vs : List (List Key × V)} {ds : List (List Key × DV)} : Rep K F v d → RepT K F vs ds → RepT K F ((k, v) :: vs) ((k, d) :: ds)
end
section
variable {K : PySem.W.Frag} {F F' : Hp}
mutual
theorem Rep.mono (s : Sub F F') : ∀ {v : V} {d : DV}, Rep K F v d → Rep K F' v d
  | _, _, .non => .non
  | _, _, .bl b => .bl b
  | _, _, .int b => .int b
  | _, _, .str b => .str b
  | _, _, .ref b => .ref b
  | _, _, .ty b => .ty b
  | _, _, .tup h r => .tup (s _ _ h) (Reps.mono s r)
  | _, _, .stup h r => .stup (SqT.sub s h) (Reps.mono s r)
  | _, _, .lst h r => .lst (s _ _ h) (Reps.mono s r)
  | _, _, .slst h r => .slst (SqL.sub s h) (Reps.mono s r)
  | _, _, .dK h r => .dK (s _ _ h) (RepK.mono s r)
  | _, _, .dT h r => .dT (s _ _ h) (RepT.mono s r)
theorem Reps.mono (s : Sub F F') : ∀ {v : List V} {d : List DV}, Reps K F v d → Reps K F' v d
  | _, _, .nil => .nil
  | _, _, .cons h r => .cons (Rep.mono s h) (Reps.mono s r)
theorem RepK.mono (s : Sub F F') : ∀ {v : List (Key × V)} {d : List (Key × DV)}, RepK K F v d → RepK K F' v d
  | _, _, .nil => .nil
  | _, _, .cons h r => .cons (Rep.mono s h) (RepK.mono s r)
theorem RepT.mono (s : Sub F F') : ∀ {v : List (List Key × V)} {d : List (List Key × DV)}, RepT K F v d → RepT K F' v d
  | _, _, .nil => .nil
  | _, _, .cons h r => .cons (Rep.mono s h) (RepT.mono s r)
end
theorem Reps.len : ∀ {vs : List V} {ds : List DV}, Reps K F vs ds → vs.length = ds.length
  | _, _, .nil => rfl
  | _, _, .cons _ r => by simp [Reps.len r]
theorem Reps.get : ∀ {vs : List V} {ds : List DV} {i : Nat} {d : DV}, Reps K F vs ds → ds[i]? = some d → ∃ v, vs[i]? = some v ∧ Rep K F v d
  | _, _, _, _, .nil, e => by simp at e
  | _, _, 0, _, .cons h _, e => by simp at e; subst e; exact ⟨_, rfl, h⟩
  | _, _, i + 1, d, .cons _ r, e => by
    obtain ⟨v, h1, h2⟩ := Reps.get (i := i) (d := d) r (by simpa using e)
    exact ⟨v, by simpa using h1, h2⟩
theorem Reps.append : ∀ {vs ws : List V} {ds es : List DV}, Reps K F vs ds → Reps K F ws es → Reps K F (vs ++ ws) (ds ++ es)
  | _, _, _, _, .nil, h => h
  | _, _, _, _, .cons h r, q => .cons h (Reps.append r q)
theorem Reps.take : ∀ {vs : List V} {ds : List DV} (n : Nat), Reps K F vs ds → Reps K F (vs.take n) (ds.take n)
  | _, _, 0, _ => .nil
  | _, _, _ + 1, .nil => .nil
  | _, _, n + 1, .cons h r => .cons h (Reps.take n r)
theorem Reps.drop : ∀ {vs : List V} {ds : List DV} (n : Nat), Reps K F vs ds → Reps K F (vs.drop n) (ds.drop n)
  | _, _, 0, r => r
  | _, _, _ + 1, .nil => .nil
  | _, _, n + 1, .cons _ r => Reps.drop n r
theorem Reps.set {v : V} {d : DV} (h : Rep K F v d) : ∀ {vs : List V} {ds : List DV} (i : Nat), Reps K F vs ds → Reps K F (vs.set i v) (ds.set i d)
  | _, _, _, .nil => .nil
  | _, _, 0, .cons _ r => .cons h r
  | _, _, i + 1, .cons q r => .cons q (Reps.set h i r)
theorem Reps.strs : ∀ {vs : List V} {ys : List Str}, Reps K F vs (ys.map DV.str) → vs = ys.map V.str
  | _, [], .nil => rfl
  | _, y :: ys, .cons h r => by cases h; simp [Reps.strs r]
theorem Reps.of_strs : ∀ (ys : List Str), Reps K F (ys.map V.str) (ys.map DV.str)
  | [] => .nil
  | y :: ys => .cons (.str y) (Reps.of_strs ys)
theorem Reps.of_ints : ∀ (ys : List Int), Reps K F (ys.map V.int) (ys.map DV.int)
  | [] => .nil
  | y :: ys => .cons (.int y) (Reps.of_ints ys)
theorem Reps.flatten {vs : List V} {ds : List DV} (r : Reps K F vs ds) : ∀ n : Nat, Reps K F (List.replicate n vs).flatten (List.replicate n ds).flatten
  | 0 => .nil
  | n + 1 => by
    rw [List.replicate_succ, List.replicate_succ, List.flatten_cons, List.flatten_cons]
    exact r.append (Reps.flatten r n)
end
inductive Cell where
  | lst (xs : List DV) | dK (kvs : List (Key × DV)) | dT (kvs : List (List Key × DV)) | ins (C : Addr) (fs : List (Str × DV)) | xd (fs : List (Str × DV)) | tbl (q : Str)
abbrev Own := Addr → Option Cell
def oset (O : Own) (a : Addr) (c : Cell) : Own := fun b => if b = a then some c else O b
def odel (O : Own) (a : Addr) : Own := fun b => if b = a then none else O b
theorem oset_same {O : Own} {a : Addr} {c : Cell} : oset O a c a = some c := by unfold oset; rw [if_pos rfl]
theorem oset_ne {O : Own} {a b : Addr} {c : Cell} (h : b ≠ a) : oset O a c b = O b := by unfold oset; rw [if_neg h]
theorem oset_oset {O : Own} {a : Addr} {c c' : Cell} : oset (oset O a c) a c' = oset O a c' := by
  funext b; unfold oset; split <;> rfl
theorem one_ne {O : Own} {a p : Addr} {c : Cell} (h : O p = none) (e : O a = some c) : a ≠ p := by
  intro z; subst z; rw [h] at e; cases e
def RepF (K : PySem.W.Frag) (F : Hp) : List (Str × V) → List (Str × DV) → Prop := Paired fun p q => p.1 = q.1 ∧ Rep K F p.2 q.2
theorem RepF.mono {K : PySem.W.Frag} {F F' : Hp} (s : Sub F F') : ∀ {x : List (Str × V)} {y : List (Str × DV)}, RepF K F x y → RepF K F' x y
  | _, _, .nil => .nil
  | _, _, .cons h r => .cons ⟨h.1, h.2.mono s⟩ (RepF.mono s r)
def CellAt (K : PySem.W.Frag) (F H : Hp) (a : Addr) : Cell → Prop
  | .lst ds => ∃ vs, H a = some (.lst vs) ∧ Reps K F vs ds
  | .dK es => ∃ kvs, H a = some (.dK kvs) ∧ RepK K F kvs es
  | .dT es => ∃ kvs, H a = some (.dT kvs) ∧ RepT K F kvs es
  | .ins C fs => ∃ dx fvs, H a = some (.ins C dx fvs) ∧ RepF K F fvs fs
  | .xd fs => ∃ fvs, H a = some (.xd fvs) ∧ RepF K F fvs fs
  | .tbl q => ∃ ps : Array Value, H a = some (.tbl ps) ∧ TriplesOk ps.toList ∧ ∀ (pos : Pos) (cv : Value), codeAmong pos ps.toList = some cv → ∃ c, cv = .ref c ∧ F c = some (LamX.CodeO c q)
theorem CellAt.mono {K : PySem.W.Frag} {F F' H H' : Hp} {a : Addr} {c : Cell} (s : Sub F F') (e : H' a = H a) (h : CellAt K F H a c) : CellAt K F' H' a c := by
  cases c with
  | lst ds => obtain ⟨vs, h1, h2⟩ := h; exact ⟨vs, e.trans h1, h2.mono s⟩
  | dK ds => obtain ⟨vs, h1, h2⟩ := h; exact ⟨vs, e.trans h1, h2.mono s⟩
  | dT ds => obtain ⟨vs, h1, h2⟩ := h; exact ⟨vs, e.trans h1, h2.mono s⟩
  | ins C ds => obtain ⟨dx, vs, h1, h2⟩ := h; exact ⟨dx, vs, e.trans h1, h2.mono s⟩
  | xd ds => obtain ⟨vs, h1, h2⟩ := h; exact ⟨vs, e.trans h1, h2.mono s⟩
  | tbl q => obtain ⟨ps, h1, h2, h3⟩ := h; exact ⟨ps, e.trans h1, h2, fun pos cv z => let ⟨c, e1, e2⟩ := h3 pos cv z; ⟨c, e1, s _ _ e2⟩⟩
theorem CellAt.some {K : PySem.W.Frag} {F H : Hp} {a : Addr} {c : Cell} (h : CellAt K F H a c) : ∃ o, H a = some o := by
  cases c with
  | lst ds => obtain ⟨vs, h1, h2⟩ := h; exact ⟨_, h1⟩
  | dK ds => obtain ⟨vs, h1, h2⟩ := h; exact ⟨_, h1⟩
  | dT ds => obtain ⟨vs, h1, h2⟩ := h; exact ⟨_, h1⟩
  | ins C ds => obtain ⟨dx, vs, h1, h2⟩ := h; exact ⟨_, h1⟩
  | xd ds => obtain ⟨vs, h1, h2⟩ := h; exact ⟨_, h1⟩
  | tbl q => obtain ⟨ps, h1, _⟩ := h; exact ⟨_, h1⟩
def Lk : HO → Prop
  | .dK _ => True
  | .dT _ => True
  | _ => False
abbrev DXK := Addr → Option (List (Str × DV)) → Own → Prop
structure KG where
  f : PySem.W.Frag
  ed : DXK
  e : XK
instance : Coe KG PySem.W.Frag := ⟨KG.f⟩
structure RS0 (K : PySem.W.Frag) (F : Hp) (O : Own) (H : Hp) : Prop where
  fro : ∀ a o, F a = some o → H a = some o ∨ (Lk o ∧ ∃ ob, H a = some (.frz ob o))
  own : ∀ a c, O a = some c → F a = none ∧ CellAt K F H a c
structure Raw (F : Hp) (O : Own) (H F' : Hp) (O' : Own) (H' : Hp) : Prop where
  sub : Sub F F'
  keep : ∀ a o, H a = some o → O a = none → H' a = some o ∧ O' a = none
  nof : ∀ a o, H a = some o → O a = none → F a = none → F' a = none
theorem Raw.refl {F : Hp} {O : Own} {H : Hp} : Raw F O H F O H := ⟨Sub.refl _, fun _ _ h1 h2 => ⟨h1, h2⟩, fun _ _ _ _ h => h⟩
theorem Raw.trans {F H F1 H1 F2 H2 : Hp} {O O1 O2 : Own} (s : Raw F O H F1 O1 H1) (t : Raw F1 O1 H1 F2 O2 H2) : Raw F O H F2 O2 H2 :=
  ⟨s.sub.trans t.sub, fun a o h1 h2 => let ⟨h3, h4⟩ := s.keep a o h1 h2; t.keep a o h3 h4, fun a o h1 h2 h3 => let ⟨h4, h5⟩ := s.keep a o h1 h2; t.nof a o h4 h5 (s.nof a o h1 h2 h3)⟩
def XAt (K : PySem.W.Frag) (F : Hp) (O : Own) (H : Hp) (d : Option Addr) : Option (List (Str × DV)) → Prop
  | none => d = none
  | some fs => ∃ dx fvs, d = some dx ∧ H dx = some (.xd fvs) ∧ F dx = none ∧ O dx = none ∧ RepF K F fvs fs
def Fresh (H : Hp) (O : Own) (d : Option Addr) : Prop := ∀ dx o, d = some dx → H dx = some o → O dx ≠ none
def FinX0 (K : PySem.W.Frag) (ED : DXK) (E : XK) (F : Hp) (O : Own) (H : Hp) : Prop := ∀ C fs O', ED C fs O' → ∀ d H' F', Raw F O H F' O' H' → RS0 K F' O' H' → XAt K F' O' H' d fs → Fresh H O d → E (.ref C) d H'
theorem FinX0.step {K : PySem.W.Frag} {ED : DXK} {E : XK} {F H F' H' : Hp} {O O' : Own} (h : FinX0 K ED E F O H) (s : Raw F O H F' O' H') : FinX0 K ED E F' O' H' := fun C fs O1 q d H1 F1 t r x f => h C fs O1 q d H1 F1 (s.trans t) r x fun dx o e e1 e2 => let ⟨a, b⟩ := s.keep dx o e1 e2; f dx o e a b
structure RS (K : KG) (F : Hp) (O : Own) (H : Hp) : Prop where
  fro : ∀ a o, F a = some o → H a = some o ∨ (Lk o ∧ ∃ ob, H a = some (.frz ob o))
  own : ∀ a c, O a = some c → F a = none ∧ CellAt K F H a c
  xf : FinX0 K.f K.ed K.e F O H
abbrev X0 : DXK := fun _ _ _ => False
theorem RS0.low {K : PySem.W.Frag} {F : Hp} {O : Own} {H : Hp} (r : RS0 K F O H) : RS ⟨K, X0, L2.E0⟩ F O H := ⟨r.fro, r.own, fun _ _ _ h => h.elim⟩
theorem RS.z {K : KG} {F : Hp} {O : Own} {H : Hp} (r : RS K F O H) : RS0 K.f F O H := ⟨r.fro, r.own⟩
section
variable {K : KG} {F F' H H' : Hp} {O O' : Own} {a p : Addr} {c : Cell}
theorem RS.plain (r : RS K F O H) {o : HO} (e : F a = some o) (n : ¬ Lk o) : H a = some o := by
  rcases r.fro a o e with h | ⟨h, _⟩
  · exact h
  · exact absurd h n
theorem RS.lst (r : RS K F O H) {vs : List V} (e : F a = some (.lst vs)) : H a = some (.lst vs) := r.plain e (fun z => z)
theorem RS.tup (r : RS K F O H) {vs : List V} (e : F a = some (.tup vs)) : H a = some (.tup vs) := r.plain e (fun z => z)
theorem RS.sqT (r : RS K F O H) {vs : List V} (h : SqT K F a vs) : SqT K H a vs := by
  rcases h with (h | ⟨o, h⟩) | h
  · exact .inl (.inl (r.plain h (fun z => z)))
  · exact .inl (.inr ⟨o, r.plain h (fun z => z)⟩)
  · exact .inr h
theorem RS.sqL (r : RS K F O H) {vs : List V} (h : SqL K F a vs) : SqL K H a vs := by
  rcases h with (h | ⟨o, h⟩) | h
  · exact .inl (.inl (r.plain h (fun z => z)))
  · exact .inl (.inr ⟨o, r.plain h (fun z => z)⟩)
  · exact .inr h
theorem RS.free (r : RS K F O H) (h : H p = none) : F p = none ∧ O p = none := by
  constructor
  · cases e : F p with
    | none => rfl
    | some o =>
      rcases r.fro p o e with z | ⟨_, ob, z⟩ <;> rw [h] at z <;> cases z
  · cases e : O p with
    | none => rfl
    | some c =>
      obtain ⟨o, z⟩ := (r.own p c e).2.some
      rw [h] at z; cases z
structure Stp (K : KG) (F : Hp) (O : Own) (H F' : Hp) (O' : Own) (H' : Hp) : Prop where
  sub : Sub F F'
  rs : RS K F' O' H'
  keep : ∀ a o, H a = some o → O a = none → H' a = some o ∧ O' a = none
  nof : ∀ a o, H a = some o → O a = none → F a = none → F' a = none
theorem Stp.raw (s : Stp K F O H F' O' H') : Raw F O H F' O' H' := ⟨s.sub, s.keep, s.nof⟩
theorem RS.drop (r : RS K F O H) : RS ⟨K.f, X0, L2.E0⟩ F O H := r.z.low
theorem Stp.up {ed : DXK} {e : XK} (s : Stp ⟨K.f, ed, e⟩ F O H F' O' H') (r : RS K F O H) : Stp K F O H F' O' H' := ⟨s.sub, ⟨s.rs.fro, s.rs.own, r.xf.step s.raw⟩, s.keep, s.nof⟩
theorem Stp.mk' (r : RS K F O H) (sub : Sub F F') (rs : RS0 K.f F' O' H') (keep : ∀ a o, H a = some o → O a = none → H' a = some o ∧ O' a = none) (nof : ∀ a o, H a = some o → O a = none → F a = none → F' a = none) : Stp K F O H F' O' H' :=
  ⟨sub, ⟨rs.fro, rs.own, r.xf.step ⟨sub, keep, nof⟩⟩, keep, nof⟩
theorem Stp.refl (r : RS K F O H) : Stp K F O H F O H := ⟨Sub.refl _, r, fun _ _ h1 h2 => ⟨h1, h2⟩, fun _ _ _ _ h => h⟩
theorem Stp.trans {F1 H1 F2 H2 : Hp} {O1 O2 : Own} (s : Stp K F O H F1 O1 H1) (t : Stp K F1 O1 H1 F2 O2 H2) : Stp K F O H F2 O2 H2 :=
  ⟨s.sub.trans t.sub, t.rs, fun a o h1 h2 => let ⟨h3, h4⟩ := s.keep a o h1 h2; t.keep a o h3 h4, fun a o h1 h2 h3 => let ⟨h4, h5⟩ := s.keep a o h1 h2; t.nof a o h4 h5 (s.nof a o h1 h2 h3)⟩
theorem RS.new (r : RS K F O H) (h : H p = none) (o : HO) : Stp K F O H (upd F p o) O (upd H p o) := by
  obtain ⟨hf, ho⟩ := r.free h
  refine Stp.mk' r (Sub.upd hf) ⟨fun b u e => ?_, fun b c e => ?_⟩ (fun b u h1 h2 => ⟨by rw [upd_ne (fun z => by subst z; rw [h] at h1; cases h1)]; exact h1, h2⟩) (fun b u h1 h2 h3 => by rw [upd_ne (fun z => by subst z; rw [h] at h1; cases h1)]; exact h3)
  · by_cases hb : b = p
    · subst hb; rw [upd_same] at e ⊢; exact .inl e
    · rw [upd_ne hb] at e; rw [upd_ne hb]; exact r.fro b u e
  · have hb : b ≠ p := one_ne ho e
    obtain ⟨h1, h2⟩ := r.own b c e
    exact ⟨by rw [upd_ne hb]; exact h1, h2.mono (Sub.upd hf) (upd_ne hb)⟩
theorem RS.newO (r : RS K F O H) (h : H p = none) {o : HO} (hc : CellAt K F (upd H p o) p c) : Stp K F O H F (oset O p c) (upd H p o) := by
  obtain ⟨hf, ho⟩ := r.free h
  refine Stp.mk' r (Sub.refl _) ⟨fun b u e => ?_, fun b c e => ?_⟩ (fun b u h1 h2 => ?_) (fun _ _ _ _ h => h)
  · have hb : b ≠ p := fun z => by subst z; rw [hf] at e; cases e
    rw [upd_ne hb]; exact r.fro b u e
  · by_cases hb : b = p
    · subst hb; rw [oset_same] at e; cases e; exact ⟨hf, hc⟩
    · rw [oset_ne hb] at e
      obtain ⟨h1, h2⟩ := r.own b c e
      exact ⟨h1, h2.mono (Sub.refl _) (upd_ne hb)⟩
  · have hb : b ≠ p := fun z => by subst z; rw [h] at h1; cases h1
    exact ⟨by rw [upd_ne hb]; exact h1, by rw [oset_ne hb]; exact h2⟩
theorem RS.write (r : RS K F O H) {c' : Cell} (h : O p = some c') {o : HO} (hc : CellAt K F (upd H p o) p c) : Stp K F O H F (oset O p c) (upd H p o) := by
  obtain ⟨hf, _⟩ := r.own p c' h
  refine Stp.mk' r (Sub.refl _) ⟨fun b u e => ?_, fun b c e => ?_⟩ (fun b u h1 h2 => ?_) (fun _ _ _ _ h => h)
  · have hb : b ≠ p := fun z => by subst z; rw [hf] at e; cases e
    rw [upd_ne hb]; exact r.fro b u e
  · by_cases hb : b = p
    · subst hb; rw [oset_same] at e; cases e; exact ⟨hf, hc⟩
    · rw [oset_ne hb] at e
      obtain ⟨h1, h2⟩ := r.own b c e
      exact ⟨h1, h2.mono (Sub.refl _) (upd_ne hb)⟩
  · have hb : b ≠ p := fun z => by subst z; rw [h] at h2; cases h2
    exact ⟨by rw [upd_ne hb]; exact h1, by rw [oset_ne hb]; exact h2⟩
end
abbrev DSt := List (Option DV)
abbrev DVK := DV → Own → Prop
abbrev DTE := DSt → Own → DVK → Prop
abbrev DTT := DSt → Own → (Bool → Own → Prop) → Prop
abbrev DTA := DSt → Own → (List DV → Own → Prop) → Prop
structure DEnds where
  nx : DSt → Own → Prop
  rt : DVK
  bk : DSt → Own → Prop := fun _ _ => False
  ct : DSt → Own → Prop := fun _ _ => False
abbrev DTS := DEnds → DSt → Own → Prop
abbrev DTG := DV → DSt → Own → (DSt → Own → Prop) → Prop
abbrev DTI := DSt → Own → (List DV → Own → Prop) → Prop
def SR (K : PySem.W.Frag) (F : Hp) (σ : L2.St) (S : DSt) : Prop := σ.length = S.length ∧ ∀ (i : Nat) (d : DV), S[i]? = some (some d) → ∃ v, σ[i]? = some (some v) ∧ Rep K F v d
theorem SR.mono {K : PySem.W.Frag} {F F' : Hp} {σ : L2.St} {S : DSt} (s : Sub F F') (h : SR K F σ S) : SR K F' σ S :=
  ⟨h.1, fun i d e => let ⟨v, h1, h2⟩ := h.2 i d e; ⟨v, h1, h2.mono s⟩⟩
theorem SR.set {K : PySem.W.Frag} {F : Hp} {σ : L2.St} {S : DSt} {v : V} {d : DV} (h : SR K F σ S) (i : Nat) (r : Rep K F v d) : SR K F (σ.set i (some v)) (S.set i (some d)) := by
  refine ⟨by simp [h.1], fun j e q => ?_⟩
  by_cases hj : j = i
  · subst hj
    have hl : j < S.length := by
      have := (List.getElem?_eq_some_iff.mp q).1
      simpa using this
    rw [List.getElem?_set_self hl] at q
    cases q
    exact ⟨v, List.getElem?_set_self (by rw [h.1]; exact hl), r⟩
  · rw [List.getElem?_set_ne (Ne.symm hj)] at q ⊢
    exact h.2 j e q
theorem SR.start {K : PySem.W.Frag} {F : Hp} {vs : List V} {ds : List DV} (N : List Str) (r : Reps K F vs ds) : SR K F (start N vs) (ds.map some ++ List.replicate (N.length - ds.length) none) := by
  refine ⟨by simp [L2.start, r.len], fun i d e => ?_⟩
  by_cases hi : i < ds.length
  · rw [List.getElem?_append_left (by simpa using hi)] at e
    rw [List.getElem?_map] at e
    cases q : ds[i]? with
    | none => rw [q] at e; cases e
    | some d' =>
      rw [q] at e
      cases e
      obtain ⟨v, h1, h2⟩ := r.get q
      refine ⟨v, ?_, h2⟩
      unfold L2.start
      rw [List.getElem?_append_left (by simpa [r.len] using hi), List.getElem?_map, h1]
      rfl
  · rw [List.getElem?_append_right (by simpa using hi), List.getElem?_replicate] at e
    split at e <;> cases e
def FinE (K : KG) (F : Hp) (O : Own) (H : Hp) (Q : DVK) (VQ : VK) : Prop := ∀ d O', Q d O' → ∀ v H' F', Stp K F O H F' O' H' → Rep K F' v d → VQ v H'
def FinT (K : KG) (F : Hp) (O : Own) (H : Hp) (Q : Bool → Own → Prop) (VQ : Bool → Hp → Prop) : Prop := ∀ b O', Q b O' → ∀ H' F', Stp K F O H F' O' H' → VQ b H'
def FinA (K : KG) (F : Hp) (O : Own) (H : Hp) (Q : List DV → Own → Prop) (VQ : List V → Hp → Prop) : Prop := ∀ ds O', Q ds O' → ∀ vs H' F', Stp K F O H F' O' H' → Reps K F' vs ds → VQ vs H'
def FinS (K : KG) (F : Hp) (O : Own) (H : Hp) (Q : DSt → Own → Prop) (VQ : L2.St → Hp → Prop) : Prop := ∀ S O', Q S O' → ∀ σ' H' F', Stp K F O H F' O' H' → SR K F' σ' S → VQ σ' H'
structure FinD (K : KG) (F : Hp) (O : Own) (H : Hp) (D : DEnds) (VD : Ends) : Prop where
  nx : FinS K F O H D.nx VD.nx
  rt : FinE K F O H D.rt VD.rt
  bk : FinS K F O H D.bk VD.bk
  ct : FinS K F O H D.ct VD.ct
section
variable {K : KG} {F F' H H' : Hp} {O O' : Own}
theorem FinE.step {Q : DVK} {VQ : VK} (h : FinE K F O H Q VQ) (s : Stp K F O H F' O' H') : FinE K F' O' H' Q VQ := fun d O q v H G s' p => h d O q v H G (s.trans s') p
theorem FinT.step {Q : Bool → Own → Prop} {VQ : Bool → Hp → Prop} (h : FinT K F O H Q VQ) (s : Stp K F O H F' O' H') : FinT K F' O' H' Q VQ := fun d O q H G s' => h d O q H G (s.trans s')
theorem FinA.step {Q : List DV → Own → Prop} {VQ : List V → Hp → Prop} (h : FinA K F O H Q VQ) (s : Stp K F O H F' O' H') : FinA K F' O' H' Q VQ := fun d O q v H G s' p => h d O q v H G (s.trans s') p
theorem FinS.step {Q : DSt → Own → Prop} {VQ : L2.St → Hp → Prop} (h : FinS K F O H Q VQ) (s : Stp K F O H F' O' H') : FinS K F' O' H' Q VQ := fun d O q v H G s' p => h d O q v H G (s.trans s') p
theorem FinD.step {D : DEnds} {VD : Ends} (h : FinD K F O H D VD) (s : Stp K F O H F' O' H') : FinD K F' O' H' D VD := ⟨h.nx.step s, h.rt.step s, h.bk.step s, h.ct.step s⟩
end
def liftE (K : KG) (t : DTE) : TE := fun σ H VQ => ∃ F O S Q, RS K F O H ∧ SR K F σ S ∧ t S O Q ∧ FinE K F O H Q VQ
def liftT (K : KG) (t : DTT) : TT := fun σ H VQ => ∃ F O S Q, RS K F O H ∧ SR K F σ S ∧ t S O Q ∧ FinT K F O H Q VQ
def liftA (K : KG) (t : DTA) : TA := fun σ H VQ => ∃ F O S Q, RS K F O H ∧ SR K F σ S ∧ t S O Q ∧ FinA K F O H Q VQ
def liftS (K : KG) (t : DTS) : TS := fun VD σ H => ∃ F O S D, RS K F O H ∧ SR K F σ S ∧ t D S O ∧ FinD K F O H D VD
def liftG (K : KG) (g : DTG) : TG := fun v σ H VQ => ∃ F O S Q d, RS K F O H ∧ SR K F σ S ∧ Rep K F v d ∧ g d S O Q ∧ FinS K F O H Q VQ
def Yields (K : KG) (F : Hp) (J : It) (ds : List DV) : Prop := ∀ (i : Nat) (O : Own) (H F2 : Hp), Sub F F2 → RS K F2 O H →
  (∀ d, ds[i]? = some d → J.go i H ∧ ∀ x H', J.yld i H x H' → ∃ F3, Stp K F2 O H F3 O H' ∧ Rep K F3 x d) ∧ (ds.length ≤ i → J.stop i H)
def liftI (K : KG) (t : DTI) : TI := fun σ H R => ∃ F O S Q, RS K F O H ∧ SR K F σ S ∧ t S O Q ∧ ∀ ds O', Q ds O' → ∀ J H' F', Stp K F O H F' O' H' → Yields K F' J ds → R J H'
abbrev G := DXK × XK
def Good (XW : DXK) (X : Cx) (g : G) : Prop := (Passes (L2.CX X.prog X.w) X g.2 ∧ (X.stack = X.env :: X.outer → Takes X (fun cls d _ H => g.2 cls d H))) ∧ ∀ C fs O, XW C fs O → g.1 C fs O
abbrev kg (X : Cx) (g : G) : KG := ⟨X.K, g.1, g.2⟩
theorem Good.pass {XW : DXK} {X : Cx} {g : G} (h : Good XW X g) : Passes (L2.CX X.prog X.w) X g.2 := h.1.1
theorem Good.takes {XW : DXK} {X : Cx} {g : G} (h : Good XW X g) (hs : X.stack = X.env :: X.outer) : Takes X (fun cls d _ H => g.2 cls d H) := h.1.2 hs
theorem good_of {XW : DXK} {X : Cx} {g : G} (t : Takes X (fun cls d _ H => g.2 cls d H)) (l : ∀ C fs O, XW C fs O → g.1 C fs O) : Good XW X g := ⟨⟨passes_call t fun _ _ _ _ h => h, fun _ => t⟩, l⟩
theorem takesL {X : Cx} : Takes X (fun cls d _ H => L2.E0 cls d H) := fun u s' ⟨_, _, _, _, _, _, _, _, _, _, _, _, _, _, _, _, w⟩ => w.elim
structure DE (XW : DXK) (X : Cx) (e : Expr) (t : DTE) : Prop where
  pe : ∀ g, Good XW X g → PE X e (liftE (kg X g) t)
structure DT (XW : DXK) (X : Cx) (e : Expr) (t : DTT) : Prop where
  pt : ∀ g, Good XW X g → PT X e (liftT (kg X g) t)
structure DW (XW : DXK) (X : Cx) (e : Expr) (t : DTT) : Prop where
  pw : ∀ g, Good XW X g → PW X e (liftT (kg X g) t)
structure DA (XW : DXK) (X : Cx) (es : List Expr) (t : DTA) : Prop where
  pa : ∀ g, Good XW X g → PA X es (liftA (kg X g) t)
structure DS (XW : DXK) (X : Cx) (st : Stmt) (t : DTS) : Prop where
  ps : ∀ g, Good XW X g → PS X st (liftS (kg X g) t)
structure DSs (XW : DXK) (X : Cx) (st : List Stmt) (t : DTS) : Prop where
  ps : ∀ g, Good XW X g → PSs X st (liftS (kg X g) t)
structure DG (XW : DXK) (X : Cx) (e : Expr) (t : DTG) : Prop where
  pg : ∀ g, Good XW X g → PG X e (liftG (kg X g) t)
structure DI (XW : DXK) (X : Cx) (tg it : Expr) (t : DTI) : Prop where
  pi : ∀ g, Good XW X g → PI X tg it (liftI (kg X g) t)
theorem PE_imp {X : Cx} {e : Expr} {t t' : TE} (h : PE X e t) (i : ∀ σ H Q, t' σ H Q → t σ H Q) : PE X e t' := ⟨fun pins s σ H Q I q => h.run pins s σ H Q I (i σ H Q q)⟩
theorem PT_imp {X : Cx} {e : Expr} {t t' : TT} (h : PT X e t) (i : ∀ σ H Q, t' σ H Q → t σ H Q) : PT X e t' := ⟨fun pins s σ H Q I q => h.run pins s σ H Q I (i σ H Q q)⟩
theorem PW_imp {X : Cx} {e : Expr} {t t' : TT} (h : PW X e t) (i : ∀ σ H Q, t' σ H Q → t σ H Q) : PW X e t' := ⟨fun w pins s σ H Q I q => h.run w pins s σ H Q I (i σ H Q q)⟩
theorem PA_imp {X : Cx} {e : List Expr} {t t' : TA} (h : PA X e t) (i : ∀ σ H Q, t' σ H Q → t σ H Q) : PA X e t' := ⟨fun p pins s σ H Q I q => h.run p pins s σ H Q I (i σ H Q q)⟩
theorem PS_imp {X : Cx} {e : Stmt} {t t' : TS} (h : PS X e t) (i : ∀ D σ H, t' D σ H → t D σ H) : PS X e t' := ⟨fun pins s σ H D I q => h.run pins s σ H D I (i D σ H q)⟩
theorem PSs_imp {X : Cx} {e : List Stmt} {t t' : TS} (h : PSs X e t) (i : ∀ D σ H, t' D σ H → t D σ H) : PSs X e t' := ⟨fun pins s σ H D I q => h.run pins s σ H D I (i D σ H q)⟩
theorem PG_imp {X : Cx} {e : Expr} {t t' : TG} (h : PG X e t) (i : ∀ v σ H Q, t' v σ H Q → t v σ H Q) : PG X e t' := ⟨fun pins s σ H v u Q I r q => h.run pins s σ H v u Q I r (i v σ H Q q)⟩
theorem PI_imp {X : Cx} {a b : Expr} {t t' : TI} (h : PI X a b t) (i : ∀ σ H Q, t' σ H Q → t σ H Q) : PI X a b t' := ⟨fun pins s σ H Q I q => h.run pins s σ H Q I (i σ H Q q)⟩
end DL
set_option Elab.async false
set_option linter.all false
set_option maxRecDepth 100000
namespace DL
open PySem PySem.Spec PyProof.Rows L2
variable {XW : DXK}
def slot : DSt → Nat → Option DV
  | [], _ => none
  | x :: _, 0 => x
  | _ :: r, n + 1 => slot r n
theorem slot_get : ∀ {S : DSt} {i : Nat} {d : DV}, slot S i = some d → S[i]? = some (some d)
  | [], _, _, h => by cases h
  | x :: _, 0, _, h => by simp only [slot] at h; simp [h]
  | _ :: r, n + 1, d, h => by simpa using slot_get (S := r) (i := n) h
def onSome {α : Type} : Option α → (α → Prop) → Prop
  | some x, K => K x
  | none, _ => False
theorem onSome_ex {α : Type} {o : Option α} {K : α → Prop} (h : onSome o K) : ∃ x, o = some x ∧ K x := by
  cases o with
  | none => exact h.elim
  | some x => exact ⟨x, rfl, h⟩
theorem onSome_of {α : Type} {o : Option α} {K : α → Prop} {x : α} (e : o = some x) (h : K x) : onSome o K := by rw [e]; exact h
def dVar (i : Nat) (S : DSt) (O : Own) (Q : DVK) : Prop := onSome (slot S i) fun d => Q d O
def dC (d : DV) (u0_ : DSt) (O : Own) (Q : DVK) : Prop := Q d O
section
variable {X : Cx}
theorem dv (i : Nat) {x : Str} {pos : Pos} (hN : X.N[i]? = some x := by rfl) (hv : Vis X.env.scope x := by first | exact Or.inl rfl | exact Or.inr (Or.inl rfl) | exact Or.inr (Or.inr rfl)) (hd : (x == ("__debug__" : Str)) = false := by decide)
    (hcd : (x == ("__classdict__" : Str)) = false := by decide) : DE XW X (.Name x pos) (dVar i) := by
  refine ⟨fun g hg => PE_imp (pv i hN hv hd hcd) ?_⟩
  rintro σ H VQ ⟨F, O, S, Q, rs, sr, h, fin⟩
  obtain ⟨d, e, h⟩ := onSome_ex h
  obtain ⟨v, h1, h2⟩ := sr.2 i d (slot_get e)
  exact ⟨v, h1, fin d O h v H F (.refl rs) h2⟩
theorem DE.const {e : Expr} {v : V} {d : DV} (h : PE X e (tC v)) (r : ∀ F, Rep X.K F v d) : DE XW X e (dC d) :=
  ⟨fun g hg => PE_imp h fun σ H VQ ⟨F, O, S, Q, rs, sr, q, fin⟩ => fin d O q v H F (.refl rs) (r F)⟩
theorem de_int {i j pos} : DE XW X (.Constant (.int i) j pos) (dC (.int i)) := .const pe_int fun _ => .int i
theorem de_bl {i j pos} : DE XW X (.Constant (.bool i) j pos) (dC (.bl i)) := .const pe_bl fun _ => .bl i
theorem de_non {j pos} : DE XW X (.Constant .none j pos) (dC .non) := .const pe_non fun _ => .non
theorem de_str {i j pos} : DE XW X (.Constant (.str i) j pos) (dC (.str i)) := .const pe_str fun _ => .str i
theorem de_glob {x : Str} {v : V} {d : DV} {u : Value} {pos : Pos} (hg : Gl X x) (hm : X.mg x = some u) (r : RelV v u) (rd : ∀ F, Rep X.K F v d) (hd : (x == ("__debug__" : Str)) = false := by decide) : DE XW X (.Name x pos) (dC d) := .const (pe_glob hg hm r hd) rd
theorem de_globS {x z : Str} {t : Tok} {pos : Pos} (hm : X.mg x = some (.str z t)) (hg : Gl X x := by rfl) (hd : (x == ("__debug__" : Str)) = false := by decide) : DE XW X (.Name x pos) (dC (.str z)) := de_glob (v := .str z) hg hm ⟨_, rfl⟩ (fun _ => .str z) hd
theorem de_globI {x : Str} {z : Int} {t : Tok} {pos : Pos} (hm : X.mg x = some (.int z t)) (hg : Gl X x := by rfl) (hd : (x == ("__debug__" : Str)) = false := by decide) : DE XW X (.Name x pos) (dC (.int z)) := de_glob (v := .int z) hg hm ⟨_, rfl⟩ (fun _ => .int z) hd
theorem de_globR {x : Str} {a : Addr} {d : DV} {pos : Pos} (hm : X.mg x = some (.ref a)) (r : ∀ F, Rep X.K F (.ref a) d) (hg : Gl X x := by rfl) (hd : (x == ("__debug__" : Str)) = false := by decide) : DE XW X (.Name x pos) (dC d) := de_glob (v := .ref a) hg hm rfl r hd
theorem de_blt {x : Str} {n : String} {pos : Pos} (hm : X.mg x = none) (hv : bootBuiltins x = some (.type n)) (hg : Gl X x := by rfl) (hn : x ≠ "__name__" := by decide) (hd : (x == ("__debug__" : Str)) = false := by decide) : DE XW X (.Name x pos) (dC (.ty n)) :=
  .const (pe_bltn (v := .ty n) hg hm hv rfl hn hd) fun _ => .ty n
end
abbrev DR2 := DV → DV → Own → DVK → Prop
def dOp (r : DR2) (ta tb : DTE) (S : DSt) (O : Own) (Q : DVK) : Prop := ta S O fun x O1 => tb S O1 fun y O2 => r x y O2 Q
def liftR2 (K : KG) (r : DR2) : R2 := fun x y H VQ => ∃ F O dx dy Q, RS K F O H ∧ Rep K F x dx ∧ Rep K F y dy ∧ r dx dy O Q ∧ FinE K F O H Q VQ
theorem OpR_imp {X : Cx} {f : Value → Value → Sem Value} {r r' : R2} (h : OpR X f r) (i : ∀ x y H Q, r' x y H Q → r x y H Q) : OpR X f r' :=
  fun pins s σ H x y v u Q I rx ry q => h pins s σ H x y v u Q I rx ry (i x y H Q q)
structure OpD (X : Cx) (f : Value → Value → Sem Value) (r : DR2) : Prop where
  op : ∀ g : G, OpR X f (liftR2 (kg X g) r)
theorem liftOp {K : KG} {r : DR2} {ta tb : DTE} {σ : L2.St} {H : Hp} {VQ : VK} (h : liftE K (dOp r ta tb) σ H VQ) : tOp (liftR2 K r) (liftE K ta) (liftE K tb) σ H VQ := by
  obtain ⟨F, O, S, Q, rs, sr, h, fin⟩ := h
  exact ⟨F, O, S, _, rs, sr, h, fun dx O1 h1 x H1 F1 s1 rx => ⟨F1, O1, S, _, s1.rs, sr.mono s1.sub, h1, fun dy O2 h2 y H2 F2 s2 ry => ⟨F2, O2, dx, dy, Q, s2.rs, rx.mono s2.sub, ry, h2, fin.step (s1.trans s2)⟩⟩⟩
section
variable {X : Cx} {a b : Expr} {ta tb : DTE} {pos : Pos} {r : DR2}
theorem de_op {op : Operator} (ho : OpD X (binaryOp op) r) (ha : DE XW X a ta) (hb : DE XW X b tb) : DE XW X (.BinOp a op b pos) (dOp r ta tb) :=
  ⟨fun g hg => PE_imp (pe_op (ho.op g) (ha.pe g hg) (hb.pe g hg)) fun _ _ _ h => liftOp h⟩
theorem de_cmp {op : CmpOp} (ho : OpD X (compareOp op) r) (ha : DE XW X a ta) (hb : DE XW X b tb) (hm : behindInMarks op b = false := by first | exact nomark _ | rfl | with_unfolding_all rfl) : DE XW X (.Compare a [op] [b] pos) (dOp r ta tb) :=
  ⟨fun g hg => PE_imp (pe_cmpR (ho.op g) (ha.pe g hg) (hb.pe g hg) hm) fun _ _ _ h => liftOp h⟩
def kBl (Q : Bool → Own → Prop) : DV → Own → Prop
  | .bl b, O => Q b O
  | _, _ => False
def dTest (t : DTE) (S : DSt) (O : Own) (Q : Bool → Own → Prop) : Prop := t S O (kBl Q)
theorem dt_cmp {op : CmpOp} (ho : OpD X (compareOp op) r) (ha : DE XW X a ta) (hb : DE XW X b tb) (hm : behindInMarks op b = false := by first | exact nomark _ | rfl | with_unfolding_all rfl) : DT XW X (.Compare a [op] [b] pos) (dTest (dOp r ta tb)) := by
  refine ⟨fun g hg => PT_imp (pt_cmpR (ho.op g) (ha.pe g hg) (hb.pe g hg) hm) fun σ H VQ h => ?_⟩
  obtain ⟨F, O, S, Q, rs, sr, h, fin⟩ := h
  refine liftOp ⟨F, O, S, _, rs, sr, h, fun d O1 h1 v H1 F1 s1 rv => ?_⟩
  cases rv with
  | bl b => exact ⟨b, rfl, fin b O1 h1 H1 F1 s1⟩
  | _ => exact h1.elim
end
def lstOf (O : Own) : DV → Option (List DV)
  | .lst xs => some xs
  | .ref a => match O a with
    | some (.lst xs) => some xs
    | _ => none
  | _ => none
def seqOf (O : Own) : DV → Option (List DV)
  | .lst xs => some xs
  | .slst xs => some xs
  | .tup xs => some xs
  | .stup xs => some xs
  | .ref a => match O a with
    | some (.lst xs) => some xs
    | _ => none
  | _ => none
def onL : Option Cell → (List DV → Prop) → Prop
  | some (.lst xs), K => K xs
  | _, _ => False
def lstQ (O : Own) : DV → (List DV → Prop) → Prop
  | .lst xs, K => K xs
  | .ref a, K => onL (O a) K
  | _, _ => False
def seqQ (O : Own) : DV → (List DV → Prop) → Prop
  | .lst xs, K => K xs
  | .slst xs, K => K xs
  | .tup xs, K => K xs
  | .stup xs, K => K xs
  | .ref a, K => onL (O a) K
  | _, _ => False
theorem onL_ex {c : Option Cell} {K : List DV → Prop} (h : onL c K) : ∃ xs, c = some (.lst xs) ∧ K xs := by
  unfold onL at h
  split at h
  · exact ⟨_, rfl, h⟩
  · exact h.elim
theorem lstQ_ex {O : Own} {d : DV} {K : List DV → Prop} (h : lstQ O d K) : ∃ xs, lstOf O d = some xs ∧ K xs := by
  unfold lstQ at h
  split at h
  · exact ⟨_, rfl, h⟩
  · rename_i a
    obtain ⟨xs, e, h⟩ := onL_ex h
    exact ⟨xs, by simp [lstOf, e], h⟩
  · exact h.elim
theorem seqQ_ex {O : Own} {d : DV} {K : List DV → Prop} (h : seqQ O d K) : ∃ xs, seqOf O d = some xs ∧ K xs := by
  unfold seqQ at h
  split at h
  · exact ⟨_, rfl, h⟩
  · exact ⟨_, rfl, h⟩
  · exact ⟨_, rfl, h⟩
  · exact ⟨_, rfl, h⟩
  · rename_i a
    obtain ⟨xs, e, h⟩ := onL_ex h
    exact ⟨xs, by simp [seqOf, e], h⟩
  · exact h.elim
theorem lstOf_at {K : KG} {F H : Hp} {O : Own} {v : V} {d : DV} {xs : List DV} (rs : RS K F O H) (r : Rep K F v d) (h : lstOf O d = some xs) : ∃ a vs, v = .ref a ∧ H a = some (.lst vs) ∧ Reps K F vs xs := by
  cases r with
  | lst e r => cases h; exact ⟨_, _, rfl, rs.lst e, r⟩
  | ref a =>
    simp only [lstOf] at h
    split at h
    · rename_i ys e
      cases h
      obtain ⟨_, vs, h1, h2⟩ := rs.own a _ e
      exact ⟨a, vs, rfl, h1, h2⟩
    · cases h
  | _ => cases h
theorem seqOf_at {K : KG} {F H : Hp} {O : Own} {v : V} {d : DV} {xs : List DV} (rs : RS K F O H) (r : Rep K F v d) (h : seqOf O d = some xs) : ∃ a vs, v = .ref a ∧ (SqL K H a vs ∨ SqT K H a vs) ∧ Reps K F vs xs := by
  cases r with
  | lst e r => cases h; exact ⟨_, _, rfl, .inl (SqL.of (rs.lst e)), r⟩
  | slst e r => cases h; exact ⟨_, _, rfl, .inl (rs.sqL e), r⟩
  | tup e r => cases h; exact ⟨_, _, rfl, .inr (SqT.of (rs.tup e)), r⟩
  | stup e r => cases h; exact ⟨_, _, rfl, .inr (rs.sqT e), r⟩
  | ref a =>
    simp only [seqOf] at h
    split at h
    · rename_i ys e
      cases h
      obtain ⟨_, vs, h1, h2⟩ := rs.own a _ e
      exact ⟨a, vs, rfl, .inl (SqL.of h1), h2⟩
    · cases h
  | _ => cases h
def dAdd : DV → DV → Own → DVK → Prop
  | .int i, .int j, O, Q => Q (.int (i + j)) O
  | .int i, .bl k, O, Q => Q (.int (i + b2i k)) O
  | .str a, .str b, O, Q => a.length + b.length ≤ sizeLine ∧ Q (.str (a ++ b)) O
  | .tup xs, .tup ys, O, Q => xs.length + ys.length ≤ sizeLine ∧ Q (.tup (xs ++ ys)) O
  | .lst xs, .lst ys, O, Q => xs.length + ys.length ≤ sizeLine ∧ Q (.lst (xs ++ ys)) O
  | .ref a, y, O, Q => onL (O a) fun xs => lstQ O y fun ys => xs.length + ys.length ≤ sizeLine ∧ Q (.lst (xs ++ ys)) O
  | .lst xs, .ref b, O, Q => onL (O b) fun ys => xs.length + ys.length ≤ sizeLine ∧ Q (.lst (xs ++ ys)) O
  | _, _, _, _ => False
theorem od_add {X : Cx} : OpD X (binaryOp .Add) dAdd := by
  refine ⟨fun g => OpR_imp (((op_add.or op_add_str).or (op_cat.or op_catA)).or op_add_ib) ?_⟩
  rintro x y H VQ ⟨F, O, dx, dy, Q, rs, rx, ry, h, fin⟩
  have fl : ∀ {x y : V} {dx dy : DV} {xs ys : List DV}, Rep X.K F x dx → Rep X.K F y dy → lstOf O dx = some xs → lstOf O dy = some ys → xs.length + ys.length ≤ sizeLine ∧ Q (.lst (xs ++ ys)) O →
      ((rI0 (fun i j => V.int (i + j)) x y H VQ ∨ (∃ i j, x = .str i ∧ y = .str j ∧ i.length + j.length ≤ sizeLine ∧ VQ (.str (i ++ j)) H)) ∨ (rCat x y H VQ ∨ rCatA X.K x y H VQ)) ∨ (∃ i k, x = .int i ∧ y = .bl k ∧ VQ (.int (i + b2i k)) H) := by
    intro x y dx dy xs ys rx ry e1 e2 h
    obtain ⟨a, vs, rfl, h1, r1⟩ := lstOf_at rs rx e1
    obtain ⟨b, ws, rfl, h2, r2⟩ := lstOf_at rs ry e2
    refine .inl (.inr (.inl ⟨a, b, vs, ws, rfl, rfl, h1, h2, by rw [r1.len, r2.len]; exact h.1, fun p hp => ?_⟩))
    have s := rs.new hp (.lst (vs ++ ws))
    exact fin _ _ h.2 _ _ _ s (.lst upd_same ((r1.mono s.sub).append (r2.mono s.sub)))
  unfold dAdd at h
  split at h
  · cases rx; cases ry
    exact .inl (.inl (.inl ⟨_, _, rfl, rfl, fin _ _ h _ _ F (.refl rs) (.int _)⟩))
  · cases rx; cases ry
    exact .inr ⟨_, _, rfl, rfl, fin _ _ h _ _ F (.refl rs) (.int _)⟩
  · cases rx; cases ry
    exact .inl (.inl (.inr ⟨_, _, rfl, rfl, h.1, fin _ _ h.2 _ _ F (.refl rs) (.str _)⟩))
  · rename_i xs ys
    cases rx with | @tup a vs _ e1 r1 => cases ry with | @tup b ws _ e2 r2 =>
    refine .inl (.inr (.inr ⟨a, b, vs, ws, rfl, rfl, SqT.of (rs.tup e1), SqT.of (rs.tup e2), by rw [r1.len, r2.len]; exact h.1, fun z => ?_, fun _ z => ?_, fun _ _ p hp => ?_⟩))
    · subst z; cases r1
      exact fin _ _ h.2 _ _ F (.refl rs) (.tup e2 r2)
    · subst z; cases r2
      have := h.2; rw [List.append_nil] at this
      exact fin _ _ this _ _ F (.refl rs) (.tup e1 r1)
    · have s := rs.new hp (.tup (vs ++ ws))
      exact fin _ _ h.2 _ _ _ s (.tup upd_same ((r1.mono s.sub).append (r2.mono s.sub)))
  · rename_i xs ys
    exact fl (xs := xs) (ys := ys) rx ry rfl rfl h
  · rename_i a y
    obtain ⟨xs, e1, h⟩ := onL_ex h
    obtain ⟨ys, e2, h⟩ := lstQ_ex h
    exact fl rx ry (by simp [lstOf, e1]) e2 h
  · rename_i xs b
    obtain ⟨ys, e2, h⟩ := onL_ex h
    exact fl (xs := xs) rx ry rfl (by simp [lstOf, e2]) h
  · exact h.elim
def dI2 (C : Int → Int → Prop) (g : Int → Int → DV) : DV → DV → Own → DVK → Prop
  | .int i, .int j, O, Q => C i j ∧ Q (g i j) O
  | _, _, _, _ => False
theorem od_I {X : Cx} {f : Value → Value → Sem Value} {C : Int → Int → Prop} {g : Int → Int → Int} (h : OpR X f (rI C fun i j => .int (g i j))) : OpD X f (dI2 C fun i j => .int (g i j)) := by
  refine ⟨fun g => OpR_imp h ?_⟩
  rintro x y H VQ ⟨F, O, dx, dy, Q, rs, rx, ry, h, fin⟩
  unfold dI2 at h
  split at h
  · cases rx; cases ry
    exact ⟨_, _, rfl, rfl, h.1, fin _ _ h.2 _ _ F (.refl rs) (.int _)⟩
  · exact h.elim
def dSub : DV → DV → Own → DVK → Prop
  | .int i, .int j, O, Q => Q (.int (i - j)) O
  | _, _, _, _ => False
theorem od_sub {X : Cx} : OpD X (binaryOp .Sub) dSub := by
  refine ⟨fun g => OpR_imp op_sub ?_⟩
  rintro x y H VQ ⟨F, O, dx, dy, Q, rs, rx, ry, h, fin⟩
  unfold dSub at h
  split at h
  · cases rx; cases ry
    exact ⟨_, _, rfl, rfl, fin _ _ h _ _ F (.refl rs) (.int _)⟩
  · exact h.elim
theorem od_mod {X : Cx} : OpD X (binaryOp .Mod) (dI2 (fun _ j => 0 < j) fun i j => .int (i % j)) := od_I op_mod
theorem od_fdiv {X : Cx} : OpD X (binaryOp .FloorDiv) (dI2 CDiv fun i j => .int (i / j)) := od_I op_fdiv
theorem od_pow {X : Cx} : OpD X (binaryOp .Pow) (dI2 CPow fun i j => .int (i ^ j.toNat)) := od_I op_pow
theorem od_mul {X : Cx} : OpD X (binaryOp .Mult) (dI2 CMul fun i j => .int (i * j)) := od_I op_mul
def dCmpI (p : Int → Int → Bool) : DV → DV → Own → DVK → Prop
  | .int i, .int j, O, Q => Q (.bl (p i j)) O
  | _, _, _, _ => False
theorem od_C {X : Cx} {f : Value → Value → Sem Value} {p : Int → Int → Bool} (h : OpR X f (rI0 fun i j => .bl (p i j))) : OpD X f (dCmpI p) := by
  refine ⟨fun g => OpR_imp h ?_⟩
  rintro x y H VQ ⟨F, O, dx, dy, Q, rs, rx, ry, h, fin⟩
  unfold dCmpI at h
  split at h
  · cases rx; cases ry
    exact ⟨_, _, rfl, rfl, fin _ _ h _ _ F (.refl rs) (.bl _)⟩
  · exact h.elim
theorem od_lt {X : Cx} : OpD X (compareOp .Lt) (dCmpI fun i j => decide (i < j)) := od_C op_lt
theorem od_le {X : Cx} : OpD X (compareOp .LtE) (dCmpI fun i j => decide (i ≤ j)) := od_C op_le
theorem od_gt {X : Cx} : OpD X (compareOp .Gt) (dCmpI fun i j => decide (j < i)) := od_C op_gt
theorem od_ge {X : Cx} : OpD X (compareOp .GtE) (dCmpI fun i j => decide (j ≤ i)) := od_C op_ge
mutual
def toPy : DV → Option PyData
  | .non => some .none
  | .bl b => some (.bool b)
  | .int i => some (.int i)
  | .str x => some (.str x)
  | .tup xs => match toPys xs with
    | some ps => some (.tuple ps)
    | none => none
  | .stup xs => match toPys xs with
    | some ps => some (.tuple ps)
    | none => none
  | .lst xs => match toPys xs with
    | some ps => some (.list ps)
    | none => none
  | _ => none
def toPys : List DV → Option (List PyData)
  | [] => some []
  | x :: r => match toPy x, toPys r with
    | some p, some ps => some (p :: ps)
    | _, _ => none
end
mutual
theorem dp_of {K : KG} {F H : Hp} {O : Own} (rs : RS K F O H) : ∀ {v : V} {d : DV} {p : PyData}, Rep K F v d → toPy d = some p → Dp K H v p
  | _, _, _, .non, h => by cases h; exact .non
  | _, _, _, .bl b, h => by cases h; exact .bl b
  | _, _, _, .int b, h => by cases h; exact .int b
  | _, _, _, .str b, h => by cases h; exact .str b
  | _, _, _, .ref _, h => by cases h
  | _, _, _, .ty _, h => by cases h
  | _, _, _, .tup e r, h => by
    unfold toPy at h
    split at h
    · rename_i ps q; cases h; exact .tup (SqT.of (rs.tup e)) (dps_of rs r q)
    · cases h
  | _, _, _, .stup e r, h => by
    unfold toPy at h
    split at h
    · rename_i ps q; cases h; exact .tup (rs.sqT e) (dps_of rs r q)
    · cases h
  | _, _, _, .lst e r, h => by
    unfold toPy at h
    split at h
    · rename_i ps q; cases h; exact .lst (SqL.of (rs.lst e)) (dps_of rs r q)
    · cases h
  | _, _, _, .slst _ _, h => by cases h
  | _, _, _, .dK _ _, h => by cases h
  | _, _, _, .dT _ _, h => by cases h
theorem dps_of {K : KG} {F H : Hp} {O : Own} (rs : RS K F O H) : ∀ {v : List V} {d : List DV} {p : List PyData}, Reps K F v d → toPys d = some p → DpAll K H v p
  | _, _, _, .nil, h => by cases h; exact .nil
  | _, _, _, .cons r q, h => by
    unfold toPys at h
    split at h
    · rename_i p ps e1 e2; cases h; exact .cons (dp_of rs r e1) (dps_of rs q e2)
    · cases h
end
def dEqP (neg : Bool) (x y : DV) (O : Own) (Q : DVK) : Prop := onSome (toPy x) fun p => onSome (toPy y) fun q => SeqAt.shaped p = true ∧ SeqAt.shaped q = true ∧ Q (.bl (if neg then !PyData.eqv p q else PyData.eqv p q)) O
def dEq (neg : Bool) : DV → DV → Own → DVK → Prop
  | .int i, .int j, O, Q => Q (.bl (if neg then !decide (i = j) else decide (i = j))) O
  | .str i, .str j, O, Q => Q (.bl (if neg then !decide (i = j) else decide (i = j))) O
  | .bl i, .bl j, O, Q => Q (.bl (if neg then !decide (i = j) else decide (i = j))) O
  | .lst xs, y, O, Q => dEqP neg (.lst xs) y O Q
  | .tup xs, y, O, Q => dEqP neg (.tup xs) y O Q
  | .stup xs, y, O, Q => dEqP neg (.stup xs) y O Q
  | .non, y, O, Q => dEqP neg .non y O Q
  | .int i, .non, O, Q => dEqP neg (.int i) .non O Q
  | .int i, .str y, O, Q => dEqP neg (.int i) (.str y) O Q
  | .int i, .tup y, O, Q => dEqP neg (.int i) (.tup y) O Q
  | .int i, .lst y, O, Q => dEqP neg (.int i) (.lst y) O Q
  | .str i, .non, O, Q => dEqP neg (.str i) .non O Q
  | .str i, .int y, O, Q => dEqP neg (.str i) (.int y) O Q
  | .str i, .tup y, O, Q => dEqP neg (.str i) (.tup y) O Q
  | .str i, .lst y, O, Q => dEqP neg (.str i) (.lst y) O Q
  | _, _, _, _ => False
end DL
set_option Elab.async false
set_option linter.all false
set_option maxRecDepth 100000
namespace DL
open PySem PySem.Spec PyProof.Rows L2 TL
variable {XW : DXK}
theorem dEq_ok {X : Cx} {f : Value → Value → Sem Value} (neg : Bool) (h1 : OpR X f (if neg then rNe else rEq)) (h2 : OpR X f (if neg then rNeD X.K else rEqD X.K)) : OpD X f (dEq neg) := by
  refine ⟨fun g => OpR_imp (h1.or h2) ?_⟩
  rintro x y H VQ ⟨F, O, dx, dy, Q, rs, rx, ry, h, fin⟩
  have fp : dEqP neg dx dy O Q → ((if neg then rNe else rEq) x y H VQ ∨ (if neg then rNeD X.K else rEqD X.K) x y H VQ) := by
    intro h
    obtain ⟨p, e1, h⟩ := onSome_ex h
    obtain ⟨q, e2, h⟩ := onSome_ex h
    obtain ⟨s1, s2, h⟩ := h
    have q := fin _ _ h _ _ F (.refl rs) (.bl _)
    refine .inr ?_
    cases neg
    · exact ⟨_, _, dp_of rs rx e1, dp_of rs ry e2, s1, s2, by simpa [Bool.false_eq_true] using q⟩
    · exact ⟨_, _, dp_of rs rx e1, dp_of rs ry e2, s1, s2, by simpa using q⟩
  unfold dEq at h
  split at h
  · cases rx; cases ry
    have q := fin _ _ h _ _ F (.refl rs) (.bl _)
    refine .inl ?_
    cases neg
    · exact ⟨rfl, by simpa [Bool.false_eq_true] using q⟩
    · exact ⟨rfl, by simpa using q⟩
  · cases rx; cases ry
    have q := fin _ _ h _ _ F (.refl rs) (.bl _)
    refine .inl ?_
    cases neg
    · exact ⟨rfl, by simpa [Bool.false_eq_true] using q⟩
    · exact ⟨rfl, by simpa using q⟩
  · cases rx; cases ry
    have q := fin _ _ h _ _ F (.refl rs) (.bl _)
    refine .inl ?_
    cases neg
    · exact ⟨rfl, by simpa [Bool.false_eq_true] using q⟩
    · exact ⟨rfl, by simpa using q⟩
  all_goals first | exact fp h | exact h.elim
theorem od_eq {X : Cx} (hu : X.A.units + 64 < cLine) : OpD X (compareOp .Eq) (dEq false) := dEq_ok false op_eq (op_eqD hu)
theorem od_ne {X : Cx} (hu : X.A.units + 64 < cLine) : OpD X (compareOp .NotEq) (dEq true) := dEq_ok true op_ne (op_neD hu)
def isNon : DV → Bool
  | .non => true
  | _ => false
def dIsN (neg : Bool) : DV → DV → Own → DVK → Prop
  | x, .non, O, Q => Q (.bl (if neg then !isNon x else isNon x)) O
  | _, _, _, _ => False
theorem isN_rep {K : KG} {F : Hp} {v : V} {d : DV} (r : Rep K F v d) : decide (v = .non) = isNon d := by
  cases r <;> rfl
theorem od_isN {X : Cx} : OpD X (compareOp .Is) (dIsN false) := by
  refine ⟨fun g => OpR_imp op_isN ?_⟩
  rintro x y H VQ ⟨F, O, dx, dy, Q, rs, rx, ry, h, fin⟩
  unfold dIsN at h
  split at h
  · cases ry
    refine ⟨rfl, ?_⟩
    rw [isN_rep rx]
    exact fin _ _ (by simpa using h) _ _ F (.refl rs) (.bl _)
  · exact h.elim
def flatD : DV → Bool
  | .non => true
  | .bl _ => true
  | .int _ => true
  | .str _ => true
  | _ => false
def eqF : DV → DV → Bool
  | .non, .non => true
  | .bl a, .bl b => a == b
  | .bl a, .int b => (if a then 1 else 0) == b
  | .int a, .bl b => a == (if b then 1 else 0)
  | .int a, .int b => a == b
  | .str a, .str b => a == b
  | _, _ => false
def inD (x : DV) (xs : List DV) : Bool := xs.any fun y => eqF y x
theorem flat_rep {K : KG} {F : Hp} {v : V} {d : DV} (r : Rep K F v d) (f : flatD d = true) : flatV v = true := by
  cases r <;> first | rfl | cases f
theorem flat_reps {K : KG} {F : Hp} : ∀ {v : List V} {d : List DV}, Reps K F v d → d.all flatD = true → v.all flatV = true
  | _, _, .nil, _ => rfl
  | _, _, .cons h r, f => by
    simp only [List.all_cons, Bool.and_eq_true] at f ⊢
    exact ⟨flat_rep h f.1, flat_reps r f.2⟩
theorem eqF_rep {K : KG} {F : Hp} {v w : V} {d e : DV} (r : Rep K F v d) (q : Rep K F w e) (f : flatD d = true) (g : flatD e = true) : eqV v w = eqF d e := by
  cases r <;> first | (cases f; done) | (cases q <;> first | rfl | (cases g; done))
theorem inD_rep {K : KG} {F : Hp} {w : V} {e : DV} (q : Rep K F w e) (g : flatD e = true) : ∀ {v : List V} {d : List DV}, Reps K F v d → d.all flatD = true → inV w v = inD e d
  | _, _, .nil, _ => rfl
  | _, _, .cons h r, f => by
    simp only [List.all_cons, Bool.and_eq_true] at f
    have := inD_rep q g r f.2
    unfold inV inD at *
    rw [List.any_cons, List.any_cons, this, eqF_rep h q f.1 g]
def dInS (neg : Bool) (z : Str) (O : Own) (Q : DVK) (c : Str) : List Nat → Prop
  | [k] => Q (.bl (if neg then !decide (k ∈ tl z) else decide (k ∈ tl z))) O
  | _ => Q (.bl (if neg then (!(!(Builtin.Str.occurrences z c 0 z.length 1).isEmpty)) else !(Builtin.Str.occurrences z c 0 z.length 1).isEmpty)) O
def dInQ (neg : Bool) (x y : DV) (O : Own) (Q : DVK) : Prop := seqQ O y fun xs => flatD x = true ∧ xs.all flatD = true ∧ Q (.bl (if neg then !inD x xs else inD x xs)) O
def dIn (neg : Bool) : DV → DV → Own → DVK → Prop
  | .str c, .str z, O, Q => dInS neg z O Q c (tl c)
  | x, .lst xs, O, Q => dInQ neg x (.lst xs) O Q
  | x, .slst xs, O, Q => dInQ neg x (.slst xs) O Q
  | x, .tup xs, O, Q => dInQ neg x (.tup xs) O Q
  | x, .stup xs, O, Q => dInQ neg x (.stup xs) O Q
  | x, .ref xs, O, Q => dInQ neg x (.ref xs) O Q
  | _, _, _, _ => False
theorem dIn_ok {X : Cx} {f : Value → Value → Sem Value} (neg : Bool) (h0 : OpR X f (fun x y H Q => ∃ (c : Nat) (z : Str), x = .str ⟨#[c]⟩ ∧ y = .str z ∧ Q (.bl (if neg then !decide (c ∈ z.cps.toList) else decide (c ∈ z.cps.toList))) H))
    (h1 : OpR X f (fun x y H Q => ∃ i j, x = .str i ∧ y = .str j ∧ Q (.bl (if neg then (!(!(Builtin.Str.occurrences j i 0 j.length 1).isEmpty)) else !(Builtin.Str.occurrences j i 0 j.length 1).isEmpty)) H))
    (h2 : OpR X f (rIn X.K neg)) : OpD X f (dIn neg) := by
  refine ⟨fun g => OpR_imp (h0.or (h1.or h2)) ?_⟩
  rintro x y H VQ ⟨F, O, dx, dy, Q, rs, rx, ry, h, fin⟩
  have fq : dInQ neg dx dy O Q → ((∃ (c : Nat) (z : Str), x = .str ⟨#[c]⟩ ∧ y = .str z ∧ VQ (.bl (if neg then !decide (c ∈ z.cps.toList) else decide (c ∈ z.cps.toList))) H) ∨
      ((∃ i j, x = .str i ∧ y = .str j ∧ VQ (.bl (if neg then (!(!(Builtin.Str.occurrences j i 0 j.length 1).isEmpty)) else !(Builtin.Str.occurrences j i 0 j.length 1).isEmpty)) H) ∨ rIn X.K neg x y H VQ)) := by
    intro h
    obtain ⟨xs, e, h⟩ := seqQ_ex h
    obtain ⟨p, vs, rfl, h1, r1⟩ := seqOf_at rs ry e
    refine .inr (.inr ⟨p, vs, rfl, h1, flat_rep rx h.1, flat_reps r1 h.2.1, ?_⟩)
    have := fin _ _ h.2.2 _ _ F (.refl rs) (.bl _)
    rw [inD_rep rx h.1 r1 h.2.1]
    cases neg <;> simpa using this
  unfold dIn at h
  split at h
  · rename_i c z
    cases rx; cases ry
    unfold dInS at h
    split at h
    · rename_i k e
      refine .inl ⟨k, z, ?_, rfl, ?_⟩
      · have : c = ⟨#[k]⟩ := ext_tl e
        rw [this]
      · exact fin _ _ h _ _ F (.refl rs) (.bl _)
    · exact .inr (.inl ⟨_, _, rfl, rfl, fin _ _ h _ _ F (.refl rs) (.bl _)⟩)
  all_goals first | exact fq h | exact h.elim
theorem od_in {X : Cx} : OpD X (compareOp .In) (dIn false) := dIn_ok false op_in_sign op_in_str op_in_seq
theorem od_notIn {X : Cx} : OpD X (compareOp .NotIn) (dIn true) := dIn_ok true op_notIn_sign op_notIn_str op_notIn_seq
def dInK (K : PySem.W.Frag) (d : Addr) (neg : Bool) : DV → DV → Own → DVK → Prop
  | .str z, .ref a, O, Q => a = d ∧ ∃ r, PySem.W.nsIn K d z = some r ∧ Q (.bl (if neg then !r.isSome else r.isSome)) O
  | _, _, _, _ => False
def dIxQ (x : DV) (i : Int) (O : Own) (Q : DVK) : Prop := seqQ O x fun xs => onSome (atI xs i) fun d => Q d O
def dIx : DV → DV → Own → DVK → Prop
  | .str z, .int i, O, Q => z.length ≤ sizeLine ∧ onSome (atI (tl z) i) fun c => Q (.str ⟨#[c]⟩) O
  | .lst x, .int i, O, Q => dIxQ (.lst x) i O Q
  | .slst x, .int i, O, Q => dIxQ (.slst x) i O Q
  | .tup x, .int i, O, Q => dIxQ (.tup x) i O Q
  | .stup x, .int i, O, Q => dIxQ (.stup x) i O Q
  | .ref x, .int i, O, Q => dIxQ (.ref x) i O Q
  | _, _, _, _ => False
theorem atI_rep {K : KG} {F : Hp} {vs : List V} {ds : List DV} {i : Int} {d : DV} (r : Reps K F vs ds) (h : atI ds i = some d) : ∃ v, atI vs i = some v ∧ Rep K F v d := by
  unfold atI at h ⊢
  rw [r.len]
  cases e : ixN ds.length i with
  | none => rw [e] at h; cases h
  | some j =>
    rw [e] at h
    exact r.get h
theorem de_ix {X : Cx} {a b : Expr} {ta tb : DTE} {pos : Pos} (ha : DE XW X a ta) (hb : DE XW X b tb) (hs : PlainIx b := by exact fun _ _ => rfl) : DE XW X (.Subscript a b pos) (dOp dIx ta tb) := by
  have h : ∀ g : G, IxR X (liftR2 (kg X g) dIx) := by
    intro g
    intro value slice pins s σ H x y v u VQ I rx' ry' h hs
    obtain ⟨F, O, dx, dy, Q, rs, rx, ry, h, fin⟩ := h
    refine ix_seq value slice pins s σ H x y v u VQ I rx' ry' ?_ hs
    have fq : ∀ i, dy = .int i → dIxQ dx i O Q → rIx X.K x y H VQ := by
      rintro i rfl h
      cases ry
      obtain ⟨xs, e, h⟩ := seqQ_ex h
      obtain ⟨d, e', h⟩ := onSome_ex h
      obtain ⟨p, vs, rfl, h1, r1⟩ := seqOf_at rs rx e
      obtain ⟨w, h2, h3⟩ := atI_rep r1 e'
      have q := fin _ _ h _ _ F (.refl rs) h3
      rcases h1 with h1 | h1
      · exact .inl ⟨p, vs, _, w, rfl, rfl, h1, h2, q⟩
      · exact .inr (.inl ⟨p, vs, _, w, rfl, rfl, h1, h2, q⟩)
    unfold dIx at h
    split at h
    · cases rx; cases ry
      obtain ⟨h0, h⟩ := h
      obtain ⟨c, e, h⟩ := onSome_ex h
      exact .inr (.inr ⟨_, _, c, rfl, rfl, h0, e, fin _ _ h _ _ F (.refl rs) (.str _)⟩)
    all_goals first | exact fq _ rfl h | exact h.elim
  exact ⟨fun g hg => PE_imp (pe_ix (h g) (ha.pe g hg) (hb.pe g hg) hs) fun _ _ _ h => liftOp h⟩
abbrev DTO := DSt → Own → (Option Int → Own → Prop) → Prop
def liftO (K : KG) (t : DTO) : TO := fun σ H VQ => ∃ F O S Q, RS K F O H ∧ SR K F σ S ∧ t S O Q ∧ ∀ o O', Q o O' → ∀ H' F', Stp K F O H F' O' H' → VQ o H'
structure DO (XW : DXK) (X : Cx) (e : Option Expr) (t : DTO) : Prop where
  po : ∀ g, Good XW X g → PO X e (liftO (kg X g) t)
theorem PO_imp {X : Cx} {e : Option Expr} {t t' : TO} (h : PO X e t) (i : ∀ σ H Q, t' σ H Q → t σ H Q) : PO X e t' := ⟨fun pins s σ H Q I q => h.run pins s σ H Q I (i σ H Q q)⟩
def dNoPart (u0_ : DSt) (O : Own) (Q : Option Int → Own → Prop) : Prop := Q none O
def kInt (Q : Int → Own → Prop) : DV → Own → Prop
  | .int i, O => Q i O
  | _, _ => False
def dPart (t : DTE) (S : DSt) (O : Own) (Q : Option Int → Own → Prop) : Prop := t S O (kInt fun i O' => Q (some i) O')
theorem do_none {X : Cx} : DO XW X none dNoPart := ⟨fun g hg => PO_imp po_none fun σ H VQ ⟨F, O, S, Q, rs, sr, h, fin⟩ => fin _ _ h H F (.refl rs)⟩
theorem do_some {X : Cx} {e : Expr} {t : DTE} (h : DE XW X e t) : DO XW X (some e) (dPart t) := by
  refine ⟨fun g hg => PO_imp (po_some (h.pe g hg)) fun σ H VQ ⟨F, O, S, Q, rs, sr, h, fin⟩ => ⟨F, O, S, _, rs, sr, h, fun d O1 h1 v H1 F1 s1 rv => ?_⟩⟩
  cases rv with
  | int i => exact ⟨i, rfl, fin _ _ h1 H1 F1 s1⟩
  | _ => exact h1.elim
def cutD (xs : List DV) (lo hi : Option Int) : List DV := (xs.drop (HT.sIx xs.length 0 lo)).take (HT.sIx xs.length xs.length hi - HT.sIx xs.length 0 lo)
theorem cut_rep {K : KG} {F : Hp} {vs : List V} {ds : List DV} (r : Reps K F vs ds) (lo hi : Option Int) : Reps K F (cutV vs lo hi) (cutD ds lo hi) := by
  unfold cutV cutD
  rw [r.len]
  exact (r.drop _).take _
def sqlOf (O : Own) : DV → Option (List DV)
  | .lst xs => some xs
  | .slst xs => some xs
  | .ref a => match O a with
    | some (.lst xs) => some xs
    | _ => none
  | _ => none
theorem sqlOf_at {K : KG} {F H : Hp} {O : Own} {v : V} {d : DV} {xs : List DV} (rs : RS K F O H) (r : Rep K F v d) (h : sqlOf O d = some xs) : ∃ a vs, v = .ref a ∧ SqL K H a vs ∧ Reps K F vs xs := by
  cases r with
  | lst e r => cases h; exact ⟨_, _, rfl, SqL.of (rs.lst e), r⟩
  | slst e r => cases h; exact ⟨_, _, rfl, rs.sqL e, r⟩
  | ref a =>
    simp only [sqlOf] at h
    split at h
    · rename_i ys e
      cases h
      obtain ⟨_, vs, h1, h2⟩ := rs.own a _ e
      exact ⟨a, vs, rfl, SqL.of h1, h2⟩
    · cases h
  | _ => cases h
abbrev DR3 := DV → Option Int → Option Int → Own → DVK → Prop
def sqlQ (O : Own) : DV → (List DV → Prop) → Prop
  | .lst xs, K => K xs
  | .slst xs, K => K xs
  | .ref a, K => onL (O a) K
  | _, _ => False
def dSlR : DV → Option Int → Option Int → Own → DVK → Prop
  | .str z, lo, hi, O, Q => z.length ≤ sizeLine ∧ Q (.str (cutS z lo hi)) O
  | .tup xs, lo, hi, O, Q => Q (.tup (cutD xs lo hi)) O
  | .lst xs, lo, hi, O, Q => Q (.lst (cutD xs lo hi)) O
  | .slst xs, lo, hi, O, Q => Q (.lst (cutD xs lo hi)) O
  | .ref a, lo, hi, O, Q => onL (O a) fun xs => Q (.lst (cutD xs lo hi)) O
  | _, _, _, _, _ => False
def dSl (r : DR3) (te : DTE) (tl th : DTO) (S : DSt) (O : Own) (Q : DVK) : Prop := te S O fun x O1 => tl S O1 fun l O2 => th S O2 fun u O3 => r x l u O3 Q
theorem de_slice {X : Cx} {e : Expr} {lo hi : Option Expr} {te : DTE} {tl th : DTO} {pos p2 : Pos} (he : DE XW X e te) (hl : DO XW X lo tl) (hh : DO XW X hi th) : DE XW X (.Subscript e (.Slice lo hi none p2) pos) (dSl dSlR te tl th) := by
  have h : ∀ g : G, SlR X (fun x lo hi H VQ => ∃ F O dx Q, RS (kg X g) F O H ∧ Rep X.K F x dx ∧ dSlR dx lo hi O Q ∧ FinE (kg X g) F O H Q VQ) := by
    intro g
    intro pins s σ H x v vl vu lo hi sl VQ I rv hs pl pu h
    obtain ⟨F, O, dx, Q, rs, rx, h, fin⟩ := h
    refine (sl_str.or (sl_tupA.or sl_list)) pins s σ H x v vl vu lo hi sl VQ I rv hs pl pu ?_
    have fl : ∀ {xs : List DV}, sqlOf O dx = some xs → Q (.lst (cutD xs lo hi)) O → (rSlS x lo hi H VQ ∨ (rSlA X.K x lo hi H VQ ∨ rSlL X.K x lo hi H VQ)) := by
      intro xs e h
      obtain ⟨a, vs, rfl, h1, r1⟩ := sqlOf_at rs rx e
      refine .inr (.inr ⟨a, vs, rfl, h1, fun p hp => ?_⟩)
      have s := rs.new hp (.lst (cutV vs lo hi))
      exact fin _ _ h _ _ _ s (.lst upd_same ((cut_rep r1 lo hi).mono s.sub))
    unfold dSlR at h
    split at h
    · cases rx
      exact .inl ⟨_, rfl, h.1, fin _ _ h.2 _ _ F (.refl rs) (.str _)⟩
    · rename_i xs
      cases rx with | @tup a vs _ e1 r1 =>
      refine .inr (.inl ⟨a, vs, rfl, SqT.of (rs.tup e1), fun z => ?_, fun z p hp => ?_⟩)
      · refine fin _ _ h _ _ F (.refl rs) (.tup e1 ?_)
        have : cutD xs lo hi = xs := by
          unfold cutD
          rw [r1.len] at z
          rw [z.1, z.2]; simp
        rw [this]; exact r1
      · have s := rs.new hp (.tup (cutV vs lo hi))
        exact fin _ _ h _ _ _ s (.tup upd_same ((cut_rep r1 lo hi).mono s.sub))
    · rename_i xs
      exact fl rfl h
    · rename_i xs
      exact fl rfl h
    · rename_i a
      obtain ⟨xs, e, h⟩ := onL_ex h
      exact fl (by simp [sqlOf, e]) h
    · exact h.elim
  refine ⟨fun g hg => PE_imp (pe_slice (h g) (he.pe g hg) (hl.po g hg) (hh.po g hg)) ?_⟩
  rintro σ H VQ ⟨F, O, S, Q, rs, sr, h, fin⟩
  exact ⟨F, O, S, _, rs, sr, h, fun d O1 h1 v H1 F1 s1 r1 => ⟨F1, O1, S, _, s1.rs, sr.mono s1.sub, h1, fun o O2 h2 H2 F2 s2 =>
    ⟨F2, O2, S, _, s2.rs, sr.mono (s1.trans s2).sub, h2, fun o' O3 h3 H3 F3 s3 => ⟨F3, O3, d, Q, s3.rs, r1.mono (s2.trans s3).sub, h3, fin.step (s1.trans (s2.trans s3))⟩⟩⟩⟩
end DL
set_option Elab.async false
set_option linter.all false
set_option maxRecDepth 100000
namespace DL
open PySem PySem.Spec PyProof.Rows L2 TL
variable {XW : DXK}
def dAnd (t u : DTT) (S : DSt) (O : Own) (Q : Bool → Own → Prop) : Prop := t S O fun c O1 => if c = true then u S O1 Q else Q false O1
def dOr (t u : DTT) (S : DSt) (O : Own) (Q : Bool → Own → Prop) : Prop := t S O fun c O1 => if c = true then Q true O1 else u S O1 Q
def dNot (t : DTT) (S : DSt) (O : Own) (Q : Bool → Own → Prop) : Prop := t S O fun c O1 => Q (!c) O1
def kTru (Q : Bool → Own → Prop) : DV → Own → Prop
  | .non, O1 => Q false O1
  | .bl b, O1 => Q b O1
  | .int i, O1 => Q (i != 0) O1
  | .str y, O1 => y.length ≤ sizeLine ∧ Q ((y.length : Int) != 0) O1
  | .lst xs, O1 => Q (!xs.isEmpty) O1
  | .slst xs, O1 => Q (!xs.isEmpty) O1
  | .tup xs, O1 => Q (!xs.isEmpty) O1
  | .stup xs, O1 => Q (!xs.isEmpty) O1
  | .ref a, O1 => onL (O1 a) fun xs => Q (!xs.isEmpty) O1
  | _, _ => False
def dTrue (K : PySem.W.Frag) (t : DTE) (S : DSt) (O : Own) (Q : Bool → Own → Prop) : Prop := t S O (kTru Q)
section
variable {X : Cx} {a b c : Expr} {ta tb : DTE} {tA tB : DTT} {rest : List Expr} {pos : Pos}
theorem dw_and1 (h : DT XW X a tA) : DW XW X (.BoolOp .And [a] pos) tA := ⟨fun g0 hg0 => pw_and1 (h.pt g0 hg0)⟩
theorem dw_or1 (h : DT XW X a tA) : DW XW X (.BoolOp .Or [a] pos) tA := ⟨fun g0 hg0 => pw_or1 (h.pt g0 hg0)⟩
theorem dw_and (ha : DT XW X a tA) (hb : DW XW X (.BoolOp .And (b :: rest) pos) tB) : DW XW X (.BoolOp .And (a :: b :: rest) pos) (dAnd tA tB) := by
  refine ⟨fun g0 hg0 => PW_imp (pw_and (ha.pt g0 hg0) (hb.pw g0 hg0)) ?_⟩
  rintro σ H VQ ⟨F, O, S, Q, rs, sr, h, fin⟩
  refine ⟨F, O, S, _, rs, sr, h, fun c O1 h1 H1 F1 s1 => ?_⟩
  dsimp only at h1 ⊢
  split
  · rename_i e
    rw [if_pos e] at h1
    exact ⟨F1, O1, S, Q, s1.rs, sr.mono s1.sub, h1, fin.step s1⟩
  · rename_i e
    rw [if_neg e] at h1
    exact fin _ _ h1 H1 F1 s1
theorem dw_or (ha : DT XW X a tA) (hb : DW XW X (.BoolOp .Or (b :: rest) pos) tB) : DW XW X (.BoolOp .Or (a :: b :: rest) pos) (dOr tA tB) := by
  refine ⟨fun g0 hg0 => PW_imp (pw_or (ha.pt g0 hg0) (hb.pw g0 hg0)) ?_⟩
  rintro σ H VQ ⟨F, O, S, Q, rs, sr, h, fin⟩
  refine ⟨F, O, S, _, rs, sr, h, fun c O1 h1 H1 F1 s1 => ?_⟩
  dsimp only at h1 ⊢
  split
  · rename_i e
    rw [if_pos e] at h1
    exact fin _ _ h1 H1 F1 s1
  · rename_i e
    rw [if_neg e] at h1
    exact ⟨F1, O1, S, Q, s1.rs, sr.mono s1.sub, h1, fin.step s1⟩
theorem dt_w (h : DW XW X a tA) : DT XW X a tA := ⟨fun g0 hg0 => (h.pw g0 hg0).pt⟩
theorem dt_not (ha : DT XW X a tA) : DT XW X (.UnaryOp .Not a pos) (dNot tA) := by
  refine ⟨fun g0 hg0 => PT_imp (pt_not (ha.pt g0 hg0)) ?_⟩
  rintro σ H VQ ⟨F, O, S, Q, rs, sr, h, fin⟩
  exact ⟨F, O, S, _, rs, sr, h, fun c O1 h1 H1 F1 s1 => fin _ _ h1 H1 F1 s1⟩
theorem dt_val (h : DE XW X a ta) (he : ∀ whole, isTrue a X.env whole = (do let v ← whole; standAt a.pos; holding [v] (truthy v)) := by intro _; rfl) : DT XW X a (dTest ta) := by
  refine ⟨fun g0 hg0 => PT_imp (pt_val (h.pe g0 hg0) he) ?_⟩
  rintro σ H VQ ⟨F, O, S, Q, rs, sr, h, fin⟩
  refine ⟨F, O, S, _, rs, sr, h, fun d O1 h1 v H1 F1 s1 rv => ?_⟩
  cases rv with
  | bl b => exact ⟨b, rfl, fin b O1 h1 H1 F1 s1⟩
  | _ => exact h1.elim
def dAndV (ta tb : DTE) (S : DSt) (O : Own) (Q : DVK) : Prop := ta S O (kBl fun c O1 => if c = true then tb S O1 Q else Q (.bl false) O1)
def dOrV (ta tb : DTE) (S : DSt) (O : Own) (Q : DVK) : Prop := ta S O (kBl fun c O1 => if c = true then Q (.bl true) O1 else tb S O1 Q)
def dNotV (ta : DTE) (S : DSt) (O : Own) (Q : DVK) : Prop := ta S O (kBl fun c O1 => Q (.bl (!c)) O1)
theorem de_one {op} (h : DE XW X a ta) : DE XW X (.BoolOp op [a] pos) ta := ⟨fun g0 hg0 => pe_one (h.pe g0 hg0)⟩
theorem de_and (ha : DE XW X a ta) (hb : DE XW X (.BoolOp .And (b :: rest) pos) tb) : DE XW X (.BoolOp .And (a :: b :: rest) pos) (dAndV ta tb) := by
  refine ⟨fun g0 hg0 => PE_imp (pe_and (ha.pe g0 hg0) (hb.pe g0 hg0)) ?_⟩
  rintro σ H VQ ⟨F, O, S, Q, rs, sr, h, fin⟩
  refine ⟨F, O, S, _, rs, sr, h, fun d O1 h1 v H1 F1 s1 rv => ?_⟩
  cases rv with
  | bl c =>
    refine ⟨c, rfl, ?_⟩
    dsimp only [kBl] at h1
    split
    · rename_i e; rw [if_pos e] at h1
      exact ⟨F1, O1, S, Q, s1.rs, sr.mono s1.sub, h1, fin.step s1⟩
    · rename_i e; rw [if_neg e] at h1
      exact fin _ _ h1 _ H1 F1 s1 (.bl _)
  | _ => exact h1.elim
theorem de_or (ha : DE XW X a ta) (hb : DE XW X (.BoolOp .Or (b :: rest) pos) tb) : DE XW X (.BoolOp .Or (a :: b :: rest) pos) (dOrV ta tb) := by
  refine ⟨fun g0 hg0 => PE_imp (pe_or (ha.pe g0 hg0) (hb.pe g0 hg0)) ?_⟩
  rintro σ H VQ ⟨F, O, S, Q, rs, sr, h, fin⟩
  refine ⟨F, O, S, _, rs, sr, h, fun d O1 h1 v H1 F1 s1 rv => ?_⟩
  cases rv with
  | bl c =>
    refine ⟨c, rfl, ?_⟩
    dsimp only [kBl] at h1
    split
    · rename_i e; rw [if_pos e] at h1
      exact fin _ _ h1 _ H1 F1 s1 (.bl _)
    · rename_i e; rw [if_neg e] at h1
      exact ⟨F1, O1, S, Q, s1.rs, sr.mono s1.sub, h1, fin.step s1⟩
  | _ => exact h1.elim
def dIf (t : DTT) (ta tb : DTE) (S : DSt) (O : Own) (Q : DVK) : Prop := t S O fun c O1 => if c = true then ta S O1 Q else tb S O1 Q
theorem de_if (hc : DT XW X c tA) (ha : DE XW X a ta) (hb : DE XW X b tb) : DE XW X (.IfExp c a b pos) (dIf tA ta tb) := by
  refine ⟨fun g0 hg0 => PE_imp (pe_ifExp (hc.pt g0 hg0) (ha.pe g0 hg0) (hb.pe g0 hg0)) ?_⟩
  rintro σ H VQ ⟨F, O, S, Q, rs, sr, h, fin⟩
  refine ⟨F, O, S, _, rs, sr, h, fun c O1 h1 H1 F1 s1 => ?_⟩
  dsimp only at h1 ⊢
  split
  · rename_i e; rw [if_pos e] at h1
    exact ⟨F1, O1, S, Q, s1.rs, sr.mono s1.sub, h1, fin.step s1⟩
  · rename_i e; rw [if_neg e] at h1
    exact ⟨F1, O1, S, Q, s1.rs, sr.mono s1.sub, h1, fin.step s1⟩
def dNeg (t : DTE) (S : DSt) (O : Own) (Q : DVK) : Prop := t S O (kInt fun i O1 => Q (.int (-i)) O1)
theorem de_neg (ha : DE XW X a ta) : DE XW X (.UnaryOp .USub a pos) (dNeg ta) := by
  refine ⟨fun g0 hg0 => PE_imp (pe_un un_neg (ha.pe g0 hg0)) ?_⟩
  rintro σ H VQ ⟨F, O, S, Q, rs, sr, h, fin⟩
  refine ⟨F, O, S, _, rs, sr, h, fun d O1 h1 v H1 F1 s1 rv => ?_⟩
  cases rv with
  | int i => exact ⟨i, rfl, fin _ _ h1 _ H1 F1 s1 (.int _)⟩
  | _ => exact h1.elim
end
def dANil (u0_ : DSt) (O : Own) (Q : List DV → Own → Prop) : Prop := Q [] O
def dACons (te : DTE) (tr : DTA) (S : DSt) (O : Own) (Q : List DV → Own → Prop) : Prop := te S O fun x O1 => tr S O1 fun xs O2 => Q (x :: xs) O2
section
variable {X : Cx} {e : Expr} {es : List Expr} {te : DTE} {t : DTA} {pos : Pos}
theorem da_nil : DA XW X [] dANil := ⟨fun g0 hg0 => PA_imp pa_nil fun σ H VQ ⟨F, O, S, Q, rs, sr, h, fin⟩ => fin _ _ h [] H F (.refl rs) .nil⟩
theorem da_cons (ha : DE XW X e te) (hr : DA XW X es t) (hs : starEach (e :: es) X.env = (false, eval e X.env) :: starEach es X.env := by rfl) : DA XW X (e :: es) (dACons te t) := by
  refine ⟨fun g0 hg0 => PA_imp (pa_cons (ha.pe g0 hg0) (hr.pa g0 hg0) hs) ?_⟩
  rintro σ H VQ ⟨F, O, S, Q, rs, sr, h, fin⟩
  exact ⟨F, O, S, _, rs, sr, h, fun d O1 h1 v H1 F1 s1 rv => ⟨F1, O1, S, _, s1.rs, sr.mono s1.sub, h1, fun ds O2 h2 vs H2 F2 s2 r2 => fin _ _ h2 _ H2 F2 (s1.trans s2) (.cons (rv.mono s2.sub) r2)⟩⟩
theorem small_line {n : Nat} (h : n ≤ 4096) : n ≤ sizeLine := by
  have := sizeLine_eq
  omega
def dTup (t : DTA) (S : DSt) (O : Own) (Q : DVK) : Prop := t S O fun xs O1 => xs.length ≤ 4096 ∧ Q (.tup xs) O1
def dLstF (t : DTA) (S : DSt) (O : Own) (Q : DVK) : Prop := t S O fun xs O1 => xs.length ≤ 4096 ∧ Q (.lst xs) O1
def dLstO (t : DTA) (S : DSt) (O : Own) (Q : DVK) : Prop := t S O fun xs O1 => xs.length ≤ 4096 ∧ ∀ p, O1 p = none → Q (.ref p) (oset O1 p (.lst xs))
theorem de_tup {x1} (h : DA XW X es t) : DE XW X (.Tuple es x1 pos) (dTup t) := by
  refine ⟨fun g0 hg0 => PE_imp (pe_tup (h.pa g0 hg0)) ?_⟩
  rintro σ H VQ ⟨F, O, S, Q, rs, sr, h, fin⟩
  refine ⟨F, O, S, _, rs, sr, h, fun ds O1 h1 vs H1 F1 s1 r1 => ⟨by rw [r1.len]; exact small_line h1.1, fun p hp => ?_⟩⟩
  have s := s1.rs.new hp (.tup vs)
  exact fin _ _ h1.2 _ _ _ (s1.trans s) (.tup upd_same (r1.mono s.sub))
theorem de_lstF (h : DA XW X es t) : DE XW X (.List es pos) (dLstF t) := by
  refine ⟨fun g0 hg0 => PE_imp (pe_lst (h.pa g0 hg0)) ?_⟩
  rintro σ H VQ ⟨F, O, S, Q, rs, sr, h, fin⟩
  refine ⟨F, O, S, _, rs, sr, h, fun ds O1 h1 vs H1 F1 s1 r1 => ⟨by rw [r1.len]; exact small_line h1.1, fun p hp => ?_⟩⟩
  have s := s1.rs.new hp (.lst vs)
  exact fin _ _ h1.2 _ _ _ (s1.trans s) (.lst upd_same (r1.mono s.sub))
theorem de_lstO (h : DA XW X es t) : DE XW X (.List es pos) (dLstO t) := by
  refine ⟨fun g0 hg0 => PE_imp (pe_lst (h.pa g0 hg0)) ?_⟩
  rintro σ H VQ ⟨F, O, S, Q, rs, sr, h, fin⟩
  refine ⟨F, O, S, _, rs, sr, h, fun ds O1 h1 vs H1 F1 s1 r1 => ⟨by rw [r1.len]; exact small_line h1.1, fun p hp => ?_⟩⟩
  have rs' := s1.rs.newO hp (o := .lst vs) (c := .lst ds) ⟨vs, upd_same, r1⟩
  exact fin _ _ (h1.2 p (s1.rs.free hp).2) _ _ _ (s1.trans rs') (.ref p)
end
abbrev DRL := List DV → Own → DVK → Prop
def liftC (K : KG) (r : DRL) : List V → Hp → VK → Prop := fun vs H VQ => ∃ F O ds Q, RS K F O H ∧ Reps K F vs ds ∧ r ds O Q ∧ FinE K F O H Q VQ
structure CallD (X : Cx) (f : Value) (r : DRL) : Prop where
  cr : ∀ g : G, CallR X f (liftC (kg X g) r)
theorem CallR_imp {X : Cx} {f : Value} {r r' : List V → Hp → VK → Prop} (h : CallR X f r) (i : ∀ vs H Q, r' vs H Q → r vs H Q) : CallR X f r' := fun pins s σ H xs us Q I v q => h pins s σ H xs us Q I v (i xs H Q q)
def dCB (r : DRL) (t : DTA) (S : DSt) (O : Own) (Q : DVK) : Prop := t S O fun ds O1 => r ds O1 Q
section
variable {X : Cx} {x : Str} {p pos : Pos} {e : Expr} {es : List Expr} {t : DTA} {id T : String} {r : DRL}
theorem liftCB {K : KG} {r : DRL} {t : DTA} {σ : L2.St} {H : Hp} {VQ : VK} (h : liftE K (dCB r t) σ H VQ) : tCB (liftC K r) (liftA K t) σ H VQ := by
  obtain ⟨F, O, S, Q, rs, sr, h, fin⟩ := h
  exact ⟨F, O, S, _, rs, sr, h, fun ds O1 h1 vs H1 F1 s1 r1 => ⟨F1, O1, ds, Q, s1.rs, r1, h1, fin.step s1⟩⟩
theorem de_callB (hc : CallD X (.builtin id) r) (hm : X.mg x = none) (hv : bootBuiltins x = some (.builtin id)) (ha : DA XW X (e :: es) t) (hg : Gl X x := by rfl) (hn : x ≠ "__name__" := by decide) (hdb : (x == ("__debug__" : Str)) = false := by decide)
    (he : starEach (e :: es) X.env = (false, eval e X.env) :: starEach es X.env := by rfl) (hpl : (backTo pos (starEach es X.env)).any (·.1) = false := by rfl) : DE XW X (.Call (.Name x p) (e :: es) [] pos) (dCB r t) :=
  ⟨fun g0 hg0 => PE_imp (pe_callB (hc.cr g0) hg hm hv (ha.pa g0 hg0) hn hdb he hpl) fun _ _ _ h => liftCB h⟩
theorem de_callTy (hc : CallD X (.type T) r) (hm : X.mg x = none) (hv : bootBuiltins x = some (.type T)) (ha : DA XW X (e :: es) t) (hg : Gl X x := by rfl) (hn : x ≠ "__name__" := by decide) (hdb : (x == ("__debug__" : Str)) = false := by decide)
    (he : starEach (e :: es) X.env = (false, eval e X.env) :: starEach es X.env := by rfl) (hpl : (backTo pos (starEach es X.env)).any (·.1) = false := by rfl) : DE XW X (.Call (.Name x p) (e :: es) [] pos) (dCB r t) :=
  ⟨fun g0 hg0 => PE_imp (pe_callTy (hc.cr g0) hg hm hv (ha.pa g0 hg0) hn hdb he hpl) fun _ _ _ h => liftCB h⟩
end
theorem Reps.one {K : KG} {F : Hp} {vs : List V} {d : DV} (r : Reps K F vs [d]) : ∃ v, vs = [v] ∧ Rep K F v d := by
  cases r with | cons h r => cases r; exact ⟨_, rfl, h⟩
theorem Reps.two {K : KG} {F : Hp} {vs : List V} {d e : DV} (r : Reps K F vs [d, e]) : ∃ v w, vs = [v, w] ∧ Rep K F v d ∧ Rep K F w e := by
  cases r with | cons h r => cases r with | cons h2 r => cases r; exact ⟨_, _, rfl, h, h2⟩
def dLen : List DV → Own → DVK → Prop
  | [.str y], O, Q => y.length ≤ sizeLine ∧ Q (.int y.length) O
  | [.lst xs], O, Q => Q (.int xs.length) O
  | [.slst xs], O, Q => Q (.int xs.length) O
  | [.tup xs], O, Q => Q (.int xs.length) O
  | [.stup xs], O, Q => Q (.int xs.length) O
  | [.ref a], O, Q => onL (O a) fun xs => Q (.int xs.length) O
  | _, _, _ => False
theorem cd_len {X : Cx} : CallD X (.builtin "len") dLen := by
  refine ⟨fun g0 => CallR_imp call_len ?_⟩
  rintro vs H VQ ⟨F, O, ds, Q, rs, rr, h, fin⟩
  have fq : ∀ {d : DV} {xs : List DV}, ds = [d] → seqOf O d = some xs → Q (.int xs.length) O → ∃ x n, vs = [x] ∧ LenV X.K x H n ∧ VQ (.int n) H := by
    intro d xs ed e hq
    subst ed
    obtain ⟨v, rfl, r⟩ := rr.one
    obtain ⟨a, ws, rfl, h1, r1⟩ := seqOf_at rs r e
    refine ⟨.ref a, ws.length, rfl, ?_, ?_⟩
    · rcases h1 with h1 | h1
      · exact .inl ⟨ws, h1, rfl⟩
      · exact .inr ⟨ws, h1, rfl⟩
    · rw [r1.len]; exact fin _ _ hq _ _ F (.refl rs) (.int _)
  unfold dLen at h
  split at h
  · obtain ⟨v, rfl, r⟩ := rr.one
    cases r
    exact ⟨_, _, rfl, ⟨h.1, rfl⟩, fin _ _ h.2 _ _ F (.refl rs) (.int _)⟩
  · exact fq rfl rfl h
  · exact fq rfl rfl h
  · exact fq rfl rfl h
  · exact fq rfl rfl h
  · rename_i a
    obtain ⟨xs, e, h⟩ := onL_ex h
    exact fq rfl (by simp [seqOf, e]) h
  · exact h.elim
def dInt : List DV → Own → DVK → Prop
  | [.int i], O, Q => Q (.int i) O
  | [.bl k], O, Q => Q (.int (if k then 1 else 0)) O
  | [.str a], O, Q => ∃ n, PySem.intText? a = some n ∧ a.length ≤ 640 ∧ Q (.int n) O
  | _, _, _ => False
theorem cd_int {X : Cx} : CallD X (.type "int") dInt := by
  refine ⟨fun g0 => CallR_imp (call_int1.or call_int_str) ?_⟩
  rintro vs H VQ ⟨F, O, ds, Q, rs, rr, h, fin⟩
  unfold dInt at h
  split at h
  · obtain ⟨v, rfl, r⟩ := rr.one
    cases r
    exact .inl (.inl ⟨_, rfl, fin _ _ h _ _ F (.refl rs) (.int _)⟩)
  · obtain ⟨v, rfl, r⟩ := rr.one
    cases r
    exact .inl (.inr ⟨_, rfl, fin _ _ h _ _ F (.refl rs) (.int _)⟩)
  · obtain ⟨v, rfl, r⟩ := rr.one
    cases r
    obtain ⟨n, h1, h2, h3⟩ := h
    exact .inr ⟨_, n, rfl, h1, h2, fin _ _ h3 _ _ F (.refl rs) (.int _)⟩
  · exact h.elim
def dStrI : List DV → Own → DVK → Prop
  | [.int i], O, Q => i.natAbs.log2 < 1920 ∧ Q (.str (toString i)) O
  | _, _, _ => False
def tyName (O : Own) : DV → Option String
  | .non => some "NoneType"
  | .bl _ => some "bool"
  | .int _ => some "int"
  | .str _ => some "str"
  | .tup _ => some "tuple"
  | .stup _ => some "tuple"
  | .lst _ => some "list"
  | .slst _ => some "list"
  | .dK _ => some "dict"
  | .ref a => match O a with
    | some (.lst _) => some "list"
    | some (.dK _) => some "dict"
    | some (.dT _) => some "dict"
    | _ => none
  | _ => none
def subTy (a b : String) : Bool := a == b || (a == "bool" && b == "int")
def dIsi : List DV → Own → DVK → Prop
  | [d, .ty b], O, Q => onSome (tyName O d) fun a => b ∈ ["int", "str", "bool", "list", "tuple", "dict"] ∧ Q (.bl (subTy a b)) O
  | _, _, _ => False
theorem kitB_sub : ∀ a ∈ ["NoneType", "bool", "int", "str", "tuple", "list", "dict"], ∀ b ∈ ["int", "str", "bool", "list", "tuple", "dict"], kitB a b = some (subTy a b) := by decide +kernel
theorem tyName_mem {O : Own} {d : DV} {a : String} (h : tyName O d = some a) : a ∈ ["NoneType", "bool", "int", "str", "tuple", "list", "dict"] := by
  unfold tyName at h
  split at h <;> first | (cases h; done) | (cases h; decide) | skip
  split at h <;> first | (cases h; done) | (cases h; decide)
theorem tyName_at {K : KG} {F H : Hp} {O : Own} {v : V} {d : DV} {a : String} (rs : RS K F O H) (r : Rep K F v d) (h : tyName O d = some a) : TyX K H v (.type a) := by
  cases r with
  | non => cases h; exact .base .non
  | bl b => cases h; exact .base (.bl b)
  | int b => cases h; exact .base (.int b)
  | str b => cases h; exact .base (.str b)
  | ty b => cases h
  | tup e r => cases h; exact .base (.tup (rs.tup e))
  | stup e r =>
    cases h
    rcases rs.sqT e with (e | ⟨o, e⟩) | ⟨o, its, n, e, c, _⟩
    · exact .base (.tup e)
    · exact .fTuple e
    · exact .kTuple e c
  | lst e r => cases h; exact .base (.lst (rs.lst e))
  | slst e r =>
    cases h
    rcases rs.sqL e with (e | ⟨o, e⟩) | ⟨o, its, n, e, c, _⟩
    · exact .base (.lst e)
    · exact .base (.frz e)
    · exact .kList e c
  | dK e r =>
    cases h
    rcases rs.fro _ _ e with e | ⟨_, ob, e⟩
    · exact .base (.dK e)
    · exact .fDict e
  | dT e r => cases h
  | ref p =>
    simp only [tyName] at h
    split at h
    · rename_i xs e; cases h
      obtain ⟨_, vs, h1, _⟩ := rs.own p _ e
      exact .base (.lst h1)
    · rename_i xs e; cases h
      obtain ⟨_, vs, h1, _⟩ := rs.own p _ e
      exact .base (.dK h1)
    · rename_i xs e; cases h
      obtain ⟨_, vs, h1, _⟩ := rs.own p _ e
      exact .base (.dT h1)
    · cases h
theorem cd_isi {X : Cx} : CallD X (.builtin "isinstance") dIsi := by
  refine ⟨fun g0 => CallR_imp call_isi ?_⟩
  rintro vs H VQ ⟨F, O, ds, Q, rs, rr, h, fin⟩
  unfold dIsi at h
  split at h
  · rename_i d b
    obtain ⟨v, w, rfl, r1, r2⟩ := rr.two
    cases r2
    obtain ⟨a, e, h⟩ := onSome_ex h
    exact ⟨v, .ty b, _, _, _, rfl, .ty b, tyName_at rs r1 e, kit_ty (kitB_sub a (tyName_mem e) b h.1), fin _ _ h.2 _ _ F (.refl rs) (.bl _)⟩
  · exact h.elim
end DL
set_option Elab.async false
set_option linter.all false
set_option maxRecDepth 100000
namespace DL
open PySem PySem.Spec PyProof.Rows L2 TL
variable {XW : DXK}
abbrev DRM := DV → List DV → Own → DVK → Prop
def mTy (O : Own) : DV → Option String
  | .str _ => some "str"
  | .lst _ => some "list"
  | .slst _ => some "list"
  | .ref a => match O a with
    | some (.lst _) => some "list"
    | some (.dK _) => some "dict"
    | some (.dT _) => some "dict"
    | _ => none
  | _ => none
theorem mTy_at {K : KG} {F H : Hp} {O : Own} {v : V} {d : DV} {T : String} (rs : RS K F O H) (r : Rep K F v d) (h : mTy O d = some T) : tyV K T v H := by
  cases r with
  | str x => cases h; rfl
  | lst e r => cases h; exact .inl ⟨rfl, _, SqL.of (rs.lst e)⟩
  | slst e r => cases h; exact .inl ⟨rfl, _, rs.sqL e⟩
  | ref a =>
    simp only [mTy] at h
    split at h
    · rename_i xs e; cases h
      obtain ⟨_, vs, h1, _⟩ := rs.own a _ e
      exact .inl ⟨rfl, vs, SqL.of h1⟩
    · rename_i xs e; cases h
      obtain ⟨_, vs, h1, _⟩ := rs.own a _ e
      exact .inr (.inr (.inl ⟨rfl, .inl ⟨vs, h1⟩⟩))
    · rename_i xs e; cases h
      obtain ⟨_, vs, h1, _⟩ := rs.own a _ e
      exact .inr (.inr (.inl ⟨rfl, .inr ⟨vs, h1⟩⟩))
    · cases h
  | _ => cases h
def liftM (K : KG) (r : DRM) : V → List V → Hp → VK → Prop := fun v vs H VQ => ∃ F O d ds Q, RS K F O H ∧ Rep K F v d ∧ Reps K F vs ds ∧ r d ds O Q ∧ FinE K F O H Q VQ
structure MtD (X : Cx) (id : String) (r : DRM) : Prop where
  mt : ∀ g : G, MtR X id (liftM (kg X g) r)
theorem MtR_imp {X : Cx} {id : String} {r r' : V → List V → Hp → VK → Prop} (h : MtR X id r) (i : ∀ x xs H Q, r' x xs H Q → r x xs H Q) : MtR X id r' := fun pins s σ H x xs v us Q I rx rv q => h pins s σ H x xs v us Q I rx rv (i x xs H Q q)
def dBM (T : String) (r : DRM) (to : DTE) (t : DTA) (S : DSt) (O : Own) (Q : DVK) : Prop := to S O fun x O1 => mTy O1 x = some T ∧ t S O1 fun xs O2 => r x xs O2 Q
def dBM0 (T : String) (r : DRM) (to : DTE) (S : DSt) (O : Own) (Q : DVK) : Prop := to S O fun x O1 => mTy O1 x = some T ∧ r x [] O1 Q
section
variable {X : Cx} {o e : Expr} {es : List Expr} {to : DTE} {t : DTA} {name : Str} {apos cpos : Pos} {T id : String} {r : DRM}
theorem de_bm (pa : PlainAttrs T) (sl : Slot T name id) (hty : typeOf (.builtin id) = pure (.type "method_descriptor")) (hm : MtD X id r) (ho : DE XW X o to) (ha : DA XW X (e :: es) t)
    (hbase : attributeBase o name X.env (eval o X.env) = eval o X.env := by rfl)
    (hfew : ((backTo cpos (starEach (e :: es) X.env)).all (fun x => !x.1) && (backToKw cpos (keywordEach [] X.env)).all (fun x => x.1.isSome)
      && decide ((e :: es).length + ([] : List Keyword).length + (if ([] : List Keyword).isEmpty then 0 else 1) < 30)) = true := by rfl)
    (hline : (apos.endLine == cpos.line) = true := by rfl) (hs : starEach (e :: es) X.env = (false, eval e X.env) :: starEach es X.env := by rfl) (hplain : (backTo cpos (starEach es X.env)).any (·.1) = false := by rfl) :
    DE XW X (.Call (.Attribute o name apos) (e :: es) [] cpos) (dBM T r to t) := by
  refine ⟨fun g0 hg0 => PE_imp (pe_bm pa sl hty (hm.mt g0) (ho.pe g0 hg0) (ha.pa g0 hg0) hbase hfew hline hs hplain) ?_⟩
  rintro σ H VQ ⟨F, O, S, Q, rs, sr, h, fin⟩
  exact ⟨F, O, S, _, rs, sr, h, fun d O1 h1 v H1 F1 s1 rv => ⟨mTy_at s1.rs rv h1.1, F1, O1, S, _, s1.rs, sr.mono s1.sub, h1.2, fun ds O2 h2 vs H2 F2 s2 r2 => ⟨F2, O2, d, ds, Q, s2.rs, rv.mono s2.sub, r2, h2, fin.step (s1.trans s2)⟩⟩⟩
theorem de_bm0 (pa : PlainAttrs T) (sl : Slot T name id) (hty : typeOf (.builtin id) = pure (.type "method_descriptor")) (hm : MtD X id r) (ho : DE XW X o to)
    (hbase : attributeBase o name X.env (eval o X.env) = eval o X.env := by rfl) (hline : (apos.endLine == cpos.line) = true := by rfl) : DE XW X (.Call (.Attribute o name apos) [] [] cpos) (dBM0 T r to) := by
  refine ⟨fun g0 hg0 => PE_imp (pe_bm0 pa sl hty (hm.mt g0) (ho.pe g0 hg0) hbase hline) ?_⟩
  rintro σ H VQ ⟨F, O, S, Q, rs, sr, h, fin⟩
  exact ⟨F, O, S, _, rs, sr, h, fun d O1 h1 v H1 F1 s1 rv => ⟨mTy_at s1.rs rv h1.1, F1, O1, d, [], Q, s1.rs, rv, .nil, h1.2, fin.step s1⟩⟩
end
def dApp : DV → List DV → Own → DVK → Prop
  | .ref a, [y], O, Q => onL (O a) fun xs => xs.length < sizeLine ∧ Q .non (oset O a (.lst (xs ++ [y])))
  | _, _, _, _ => False
theorem md_append {X : Cx} : MtD X "list.append" dApp := by
  refine ⟨fun g0 => MtR_imp mt_append ?_⟩
  rintro x xs H VQ ⟨F, O, d, ds, Q, rs, rx, rr, h, fin⟩
  unfold dApp at h
  split at h
  · rename_i a y
    cases rx
    obtain ⟨v, rfl, ry⟩ := rr.one
    obtain ⟨ys, e, h⟩ := onL_ex h
    obtain ⟨_, vs, h1, r1⟩ := rs.own a _ e
    refine ⟨a, vs, v, rfl, rfl, h1, by rw [r1.len]; exact h.1, ?_⟩
    exact fin _ _ h.2 _ _ F (rs.write e ⟨_, upd_same, r1.append (.cons ry .nil)⟩) .non
  · exact h.elim
def strsOf : List DV → Option (List Str)
  | [] => some []
  | .str x :: r => match strsOf r with
    | some ys => some (x :: ys)
    | none => none
  | _ => none
theorem strsOf_eq : ∀ {xs : List DV} {ys : List Str}, strsOf xs = some ys → xs = ys.map DV.str
  | [], _, h => by cases h; rfl
  | .str x :: r, _, h => by
    unfold strsOf at h
    split at h
    · rename_i ys e; cases h; rw [strsOf_eq e]; rfl
    · cases h
  | .non :: _, _, h => by cases h
  | .bl _ :: _, _, h => by cases h
  | .int _ :: _, _, h => by cases h
  | .tup _ :: _, _, h => by cases h
  | .lst _ :: _, _, h => by cases h
  | .slst _ :: _, _, h => by cases h
  | .stup _ :: _, _, h => by cases h
  | .dK _ :: _, _, h => by cases h
  | .dT _ :: _, _, h => by cases h
  | .ref _ :: _, _, h => by cases h
  | .ty _ :: _, _, h => by cases h
def dJoin : DV → List DV → Own → DVK → Prop
  | .str a, [d], O, Q => seqQ O d fun xs => onSome (strsOf xs) fun ys => (ys.map (·.length)).sum + ys.length * a.length ≤ 16777216 ∧ Q (.str (Txt.join a ys)) O
  | _, _, _, _ => False
theorem md_join {X : Cx} : MtD X "str.join" dJoin := by
  refine ⟨fun g0 => MtR_imp mt_join ?_⟩
  rintro x xs H VQ ⟨F, O, d, ds, Q, rs, rx, rr, h, fin⟩
  unfold dJoin at h
  split at h
  · rename_i a y
    cases rx
    obtain ⟨v, rfl, ry⟩ := rr.one
    obtain ⟨ys, e, h⟩ := seqQ_ex h
    obtain ⟨p, vs, rfl, h1, r1⟩ := seqOf_at rs ry e
    obtain ⟨zs, e2, hj⟩ := onSome_ex h
    have e3 := strsOf_eq e2
    subst e3
    have e4 := r1.strs
    subst e4
    exact ⟨_, p, zs, rfl, rfl, h1, hj.1, fin _ _ hj.2 _ _ F (.refl rs) (.str _)⟩
  · exact h.elim
def dSplit : DV → List DV → Own → DVK → Prop
  | .str a, [.str b], O, Q => (b.length == 0) = false ∧ a.length + 2 ≤ sizeLine ∧ Q (.lst ((Txt.split a b).map DV.str)) O
  | _, _, _, _ => False
theorem md_split {X : Cx} : MtD X "str.split" dSplit := by
  refine ⟨fun g0 => MtR_imp mt_split ?_⟩
  rintro x xs H VQ ⟨F, O, d, ds, Q, rs, rx, rr, h, fin⟩
  unfold dSplit at h
  split at h
  · rename_i a y
    cases rx
    obtain ⟨v, rfl, ry⟩ := rr.one
    cases ry
    refine ⟨_, _, rfl, rfl, h.1, h.2.1, fun p hp => ?_⟩
    have s := rs.new hp (.lst ((Txt.split a y).map V.str))
    exact fin _ _ h.2.2 _ _ _ s (.lst upd_same (Reps.of_strs _))
  · exact h.elim
def dgName (i : Nat) (d : DV) (S : DSt) (O : Own) (Q : DSt → Own → Prop) : Prop := Q (S.set i (some d)) O
abbrev DTGs := List DV → DSt → Own → (DSt → Own → Prop) → Prop
def liftGs (K : KG) (g : DTGs) : TGs := fun vs σ H VQ => ∃ F O S Q ds, RS K F O H ∧ SR K F σ S ∧ Reps K F vs ds ∧ g ds S O Q ∧ FinS K F O H Q VQ
structure DGs (XW : DXK) (X : Cx) (es : List Expr) (t : DTGs) : Prop where
  pgs : ∀ g, Good XW X g → PGs X es (liftGs (kg X g) t)
theorem PGs_imp {X : Cx} {e : List Expr} {t t' : TGs} (h : PGs X e t) (i : ∀ v σ H Q, t' v σ H Q → t v σ H Q) : PGs X e t' := ⟨fun pins s σ H v u Q I r q => h.run pins s σ H v u Q I r (i v σ H Q q)⟩
def dgNil : List DV → DSt → Own → (DSt → Own → Prop) → Prop
  | [], S, O, Q => Q S O
  | _, _, _, _ => False
def dgCons (g : DTG) (u : DTGs) : List DV → DSt → Own → (DSt → Own → Prop) → Prop
  | d :: r, S, O, Q => g d S O fun S' O' => u r S' O' Q
  | [], _, _, _ => False
def dgTup (n : Nat) (t : DTGs) : DV → DSt → Own → (DSt → Own → Prop) → Prop
  | .tup ds, S, O, Q => ds.length = n ∧ t ds S O Q
  | _, _, _, _ => False
def dgLst (n : Nat) (t : DTGs) (d : DV) (S : DSt) (O : Own) (Q : DSt → Own → Prop) : Prop := sqlQ O d fun ds => ds.length = n ∧ t ds S O Q
section
variable {X : Cx} {pos : Pos} {e : Expr} {es : List Expr} {g : DTG} {u : DTGs}
theorem dg_name (i : Nat) {x : Str} (hN : X.N.Nodup) (hi : X.N[i]? = some x := by rfl) (hx : Loc X.env.scope x := by first | exact Or.inl rfl | exact Or.inr rfl) (hf : X.fn x = true ∨ X.env.scope.names.lookup x = some .local := by first | exact .inl rfl | exact .inr rfl) : DG XW X (.Name x pos) (dgName i) := by
  refine ⟨fun g0 hg0 => PG_imp (pg_name hN hi hx hf) ?_⟩
  rintro v σ H VQ ⟨F, O, S, Q, d, rs, sr, r, h, fin⟩
  exact fin _ _ h _ H F (.refl rs) (sr.set i r)
theorem dgs_nil : DGs XW X [] dgNil := by
  refine ⟨fun g0 hg0 => PGs_imp pgs_nil ?_⟩
  rintro v σ H VQ ⟨F, O, S, Q, ds, rs, sr, r, h, fin⟩
  cases r with
  | nil => exact ⟨rfl, fin _ _ h _ H F (.refl rs) sr⟩
  | cons => exact h.elim
theorem dgs_cons (h1 : DG XW X e g) (h2 : DGs XW X es u) (hs : (assignEach (e :: es) X.env).map (·.2) = assign e X.env :: (assignEach es X.env).map (·.2) := by rfl) : DGs XW X (e :: es) (dgCons g u) := by
  refine ⟨fun g0 hg0 => PGs_imp (pgs_cons (h1.pg g0 hg0) (h2.pgs g0 hg0) hs) ?_⟩
  rintro v σ H VQ ⟨F, O, S, Q, ds, rs, sr, r, h, fin⟩
  cases r with
  | nil => exact h.elim
  | @cons w d vs ds rw_ r =>
    exact ⟨w, vs, rfl, F, O, S, _, d, rs, sr, rw_, h, fun S1 O1 q1 σ1 H1 F1 s1 sr1 => ⟨F1, O1, S1, Q, ds, s1.rs, sr1, r.mono s1.sub, q1, fin.step s1⟩⟩
theorem dg_tup {k n : Nat} (hc : X.calm = true) (h : DGs XW X es u) (hn : (assignEach es X.env).length = n := by rfl) (hst : (assignEach es X.env).findIdx? (·.1) = none := by rfl) : DG XW X (.Tuple es k pos) (dgTup n u) := by
  refine ⟨fun g0 hg0 => PG_imp (pg_tup hc (h.pgs g0 hg0) hn hst) ?_⟩
  rintro v σ H VQ ⟨F, O, S, Q, d, rs, sr, r, h, fin⟩
  cases r with
  | @tup a vs ds e r => exact ⟨a, vs, rfl, SqT.of (rs.tup e), by rw [r.len]; exact h.1, F, O, S, Q, ds, rs, sr, r, h.2, fin⟩
  | _ => exact h.elim
end
end DL
set_option Elab.async false
set_option linter.all false
set_option maxRecDepth 100000
namespace DL
open PySem PySem.Spec PyProof.Rows L2 TL
variable {XW : DXK}
abbrev DSet := DV → DV → DV → Own → (Own → Prop) → Prop
def liftSet (K : KG) (r : DSet) : TSet := fun o i v H VQ => ∃ F O d e f Q, RS K F O H ∧ Rep K F o d ∧ Rep K F i e ∧ Rep K F v f ∧ r d e f O Q ∧ ∀ O', Q O' → ∀ H' F', Stp K F O H F' O' H' → VQ H'
structure PSetD (X : Cx) (r : DSet) : Prop where
  ps : ∀ g : G, PSet X (liftSet (kg X g) r)
theorem PSet_imp {X : Cx} {r r' : TSet} (h : PSet X r) (i : ∀ o j v H Q, r' o j v H Q → r o j v H Q) : PSet X r' := fun pins s σ H o i' v ov iv u Q I ro ri rv q => h pins s σ H o i' v ov iv u Q I ro ri rv (i o i' v H Q q)
def dSetL : DV → DV → DV → Own → (Own → Prop) → Prop
  | .ref a, .int k, v, O, Q => onL (O a) fun xs => onSome (ixN xs.length k) fun j => Q (oset O a (.lst (xs.set j v)))
  | _, _, _, _, _ => False
theorem psd_list {X : Cx} : PSetD X dSetL := by
  refine ⟨fun g0 => PSet_imp set_list ?_⟩
  rintro o i v H VQ ⟨F, O, d, e, f, Q, rs, ro, ri, rv, h, fin⟩
  unfold dSetL at h
  split at h
  · rename_i a k
    cases ro; cases ri
    obtain ⟨xs, e, h⟩ := onL_ex h
    obtain ⟨j, e2, h⟩ := onSome_ex h
    obtain ⟨_, vs, h1, r1⟩ := rs.own a _ e
    exact ⟨a, vs, k, j, rfl, rfl, h1, by rw [r1.len]; exact e2, fin _ h _ F (rs.write e ⟨_, upd_same, r1.set rv j⟩)⟩
  · exact h.elim
def dgSub (to ti : DTE) (t : DSet) (v : DV) (S : DSt) (O : Own) (Q : DSt → Own → Prop) : Prop := to S O fun o O1 => ti S O1 fun i O2 => t o i v O2 fun O3 => Q S O3
theorem dg_sub {X : Cx} {o i : Expr} {to ti : DTE} {t : DSet} {pos : Pos} (ho : DE XW X o to) (hi : DE XW X i ti) (hs : PSetD X t)
    (ha : ∀ v, assign (.Subscript o i pos) X.env v = (do
      let ov ← holding [v] (eval o X.env)
      let iv ← holding [v, ov] (eval i X.env)
      standAt pos
      holding [v, ov, iv] (setItem ov iv v)
      release [v, ov, iv] []) := by intro _; rfl) : DG XW X (.Subscript o i pos) (dgSub to ti t) := by
  refine ⟨fun g0 hg0 => PG_imp (pg_sub (ho.pe g0 hg0) (hi.pe g0 hg0) (hs.ps g0) ha) ?_⟩
  rintro v σ H VQ ⟨F, O, S, Q, d, rs, sr, r, h, fin⟩
  exact ⟨F, O, S, _, rs, sr, h, fun d1 O1 h1 v1 H1 F1 s1 r1 => ⟨F1, O1, S, _, s1.rs, sr.mono s1.sub, h1, fun d2 O2 h2 v2 H2 F2 s2 r2 =>
    ⟨F2, O2, d1, d2, d, _, s2.rs, r1.mono s2.sub, r2, r.mono (s1.trans s2).sub, h2, fun O3 h3 H3 F3 s3 => fin _ _ h3 _ H3 F3 (s1.trans (s2.trans s3)) (sr.mono (s1.trans (s2.trans s3)).sub)⟩⟩⟩
def dNext (D : DEnds) (S : DSt) (O : Own) : Prop := D.nx S O
def dSeq (t u : DTS) (D : DEnds) (S : DSt) (O : Own) : Prop := t { D with nx := u D } S O
def dBreak (D : DEnds) (S : DSt) (O : Own) : Prop := D.bk S O
def dCont (D : DEnds) (S : DSt) (O : Own) : Prop := D.ct S O
def dNever (u0_ : DEnds) (u1_ : DSt) (u2_ : Own) : Prop := False
def dDrop (te : DTE) (D : DEnds) (S : DSt) (O : Own) : Prop := te S O fun _ O1 => D.nx S O1
def dRet (te : DTE) (D : DEnds) (S : DSt) (O : Own) : Prop := te S O D.rt
def dRetN (D : DEnds) (u1_ : DSt) (O : Own) : Prop := D.rt .non O
def dIfS (c : DTT) (t u : DTS) (D : DEnds) (S : DSt) (O : Own) : Prop := c S O fun b O1 => if b = true then t D S O1 else u D S O1
def dAsg (te : DTE) (g : DTG) (D : DEnds) (S : DSt) (O : Own) : Prop := te S O fun x O1 => g x S O1 D.nx
def dAug (i : Nat) (te : DTE) (r : DR2) (D : DEnds) (S : DSt) (O : Own) : Prop := onSome (slot S i) fun x => te S O fun y O1 => r x y O1 fun z O2 => D.nx (S.set i (some z)) O2
def frzC : Option Cell → (DV → Prop) → Prop
  | some (.lst xs), K => K (.lst xs)
  | some (.dK xs), K => K (.dK xs)
  | some (.dT xs), K => K (.dT xs)
  | _, _ => False
def kRef (Q : Addr → Own → Prop) : DV → Own → Prop
  | .ref a, O => Q a O
  | _, _ => False
theorem kRef_ex {Q : Addr → Own → Prop} {d : DV} {O : Own} (h : kRef Q d O) : ∃ a, d = .ref a ∧ Q a O := by
  unfold kRef at h
  split at h
  · exact ⟨_, rfl, h⟩
  · exact h.elim
def dFrz (i : Nat) (t : DTS) (D : DEnds) (S : DSt) (O : Own) : Prop := onSome (slot S i) fun x => kRef (fun a O => frzC (O a) fun d => t D (S.set i (some d)) (odel O a)) x O
def dRetF (te : DTE) (D : DEnds) (S : DSt) (O : Own) : Prop := te S O (kRef fun a O1 => frzC (O1 a) fun d => D.rt d (odel O1 a))
section
variable {X : Cx} {st : Stmt} {rest : List Stmt} {t u : DTS} {e : Expr} {te : DTE} {pos : Pos} {g : DTG}
theorem dss_nil : DSs XW X [] dNext := ⟨fun g0 hg0 => PSs_imp pss_nil fun VD σ H ⟨F, O, S, D, rs, sr, h, fin⟩ => fin.nx _ _ h σ H F (.refl rs) sr⟩
theorem dss_cons (h1 : DS XW X st t) (h2 : DSs XW X rest u) : DSs XW X (st :: rest) (dSeq t u) := by
  refine ⟨fun g0 hg0 => PSs_imp (pss_cons (h1.ps g0 hg0) (h2.ps g0 hg0)) ?_⟩
  rintro VD σ H ⟨F, O, S, D, rs, sr, h, fin⟩
  exact ⟨F, O, S, _, rs, sr, h, ⟨fun S1 O1 h1 σ1 H1 F1 s1 sr1 => ⟨F1, O1, S1, D, s1.rs, sr1, h1, fin.step s1⟩, fin.rt, fin.bk, fin.ct⟩⟩
theorem dss_one (h1 : DS XW X st t) : DSs XW X [st] t := ⟨fun g0 hg0 => pss_one (h1.ps g0 hg0)⟩
theorem ds_expr (he : DE XW X e te) (hs : swapsWith e none pos.line X.env = pure false := by rfl) : DS XW X (.Expr e pos) (dDrop te) := by
  refine ⟨fun g0 hg0 => PS_imp (ps_expr (he.pe g0 hg0) hs) ?_⟩
  rintro VD σ H ⟨F, O, S, D, rs, sr, h, fin⟩
  exact ⟨F, O, S, _, rs, sr, h, fun d O1 h1 v H1 F1 s1 rv => fin.nx _ _ h1 σ H1 F1 s1 (sr.mono s1.sub)⟩
theorem ds_ret (he : DE XW X e te) : DS XW X (.Return (some e) pos) (dRet te) := by
  refine ⟨fun g0 hg0 => PS_imp (ps_ret (he.pe g0 hg0)) ?_⟩
  rintro VD σ H ⟨F, O, S, D, rs, sr, h, fin⟩
  exact ⟨F, O, S, _, rs, sr, h, fin.rt⟩
theorem SR.put {K : KG} {F : Hp} {σ : L2.St} {S : DSt} {v : V} {d : DV} (h : SR K F σ S) (i : Nat) (e : σ[i]? = some (some v)) (r : Rep K F v d) : SR K F σ (S.set i (some d)) := by
  refine ⟨by simp [h.1], fun j f q => ?_⟩
  by_cases hj : j = i
  · subst hj
    have hl : j < S.length := by
      have := (List.getElem?_eq_some_iff.mp q).1
      simpa using this
    rw [List.getElem?_set_self hl] at q
    cases q
    exact ⟨v, e, r⟩
  · rw [List.getElem?_set_ne (Ne.symm hj)] at q
    exact h.2 j f q
theorem ds_if {c : Expr} {a b : List Stmt} {tc : DTT} (hc : DT XW X c tc) (ha : DSs XW X a t) (hb : DSs XW X b u) : DS XW X (.If c a b pos) (dIfS tc t u) := by
  refine ⟨fun g0 hg0 => PS_imp (ps_if (hc.pt g0 hg0) (ha.ps g0 hg0) (hb.ps g0 hg0)) ?_⟩
  rintro VD σ H ⟨F, O, S, D, rs, sr, h, fin⟩
  refine ⟨F, O, S, _, rs, sr, h, fun c O1 h1 H1 F1 s1 => ?_⟩
  dsimp only at h1 ⊢
  split
  · rename_i e; rw [if_pos e] at h1
    exact ⟨F1, O1, S, D, s1.rs, sr.mono s1.sub, h1, fin.step s1⟩
  · rename_i e; rw [if_neg e] at h1
    exact ⟨F1, O1, S, D, s1.rs, sr.mono s1.sub, h1, fin.step s1⟩
theorem ds_set (i : Nat) {x : Str} {pos' : Pos} (he : DE XW X e te) (hN : X.N.Nodup) (hi : X.N[i]? = some x := by rfl) (hx : Loc X.env.scope x := by first | exact Or.inl rfl | exact Or.inr rfl) (hs : swapsWith e (some (.Name x pos')) pos.line X.env = pure false := by rfl)
    (hf : X.fn x = true ∨ X.env.scope.names.lookup x = some .local := by first | exact .inl rfl | exact .inr rfl) : DS XW X (.Assign [.Name x pos'] e pos) (dAsg te (dgName i)) := by
  refine ⟨fun g0 hg0 => PS_imp (ps_set hN hi hx (he.pe g0 hg0) hs hf) ?_⟩
  rintro VD σ H ⟨F, O, S, D, rs, sr, h, fin⟩
  exact ⟨F, O, S, _, rs, sr, h, fun d O1 h1 v H1 F1 s1 rv => fin.nx _ _ h1 _ H1 F1 s1 ((sr.mono s1.sub).set i rv)⟩
theorem ds_asg {tg : Expr} (he : DE XW X e te) (hg : DG XW X tg g) (hs : swapsWithSole [tg] e pos.line X.env = pure false := by rfl) (hw : swappedStores [tg] e X.env = pure none := by rfl)
    (h1 : (assignEach [tg] X.env).map (·.2) = [assign tg X.env] := by rfl) : DS XW X (.Assign [tg] e pos) (dAsg te g) := by
  refine ⟨fun g0 hg0 => PS_imp (ps_asg (he.pe g0 hg0) (hg.pg g0 hg0) hs hw h1) ?_⟩
  rintro VD σ H ⟨F, O, S, D, rs, sr, h, fin⟩
  exact ⟨F, O, S, _, rs, sr, h, fun d O1 h1 v H1 F1 s1 rv => ⟨F1, O1, S, _, d, s1.rs, sr.mono s1.sub, rv, h1, fin.nx.step s1⟩⟩
def kPar (i j : Nat) (nx : DSt → Own → Prop) (S : DSt) : List DV → Own → Prop
  | [v, w], O1 => nx ((S.set i (some v)).set j (some w)) O1
  | _, _ => False
theorem kPar_e1 {i j : Nat} {nx : DSt → Own → Prop} {S : DSt} {v w : DV} {O : Own} : kPar i j nx S [v, w] O = nx ((S.set i (some v)).set j (some w)) O := rfl
def dPar (i j : Nat) (ta : DTA) (D : DEnds) (S : DSt) (O : Own) : Prop := ta S O (kPar i j D.nx S)
theorem ds_par (i j : Nat) {x y : Str} {a b : Expr} {ta : DTA} {px py pt : Pos} {kt k2 pt2} (hN : X.N.Nodup) (ha : DA XW X [a, b] ta) (hc : X.calm = true := by rfl) (hi : X.N[i]? = some x := by rfl) (hj : X.N[j]? = some y := by rfl) (hij : i ≠ j := by decide)
    (hx : X.env.scope.names.lookup x = some .local := by rfl) (hy : X.env.scope.names.lookup y = some .local := by rfl)
    (hw : swappedStores [.Tuple [.Name x px, .Name y py] kt pt] (.Tuple [a, b] k2 pt2) X.env = pure (some [x, y]) := by rfl)
    (hs : swapsWithSole [.Tuple [.Name x px, .Name y py] kt pt] (.Tuple [a, b] k2 pt2) pos.line X.env = pure false := by rfl) :
    DS XW X (.Assign [.Tuple [.Name x px, .Name y py] kt pt] (.Tuple [a, b] k2 pt2) pos) (dPar i j ta) := by
  refine ⟨fun g0 hg0 => PS_imp (ps_par hc hN hi hj hij hx hy (ha.pa g0 hg0) hw hs) ?_⟩
  rintro VD σ H ⟨F, O, S, D, rs, sr, h, fin⟩
  refine ⟨F, O, S, _, rs, sr, h, fun ds O1 h1 vs H1 F1 s1 r1 => ?_⟩
  unfold kPar at h1
  split at h1
  · cases r1 with
    | cons ra r1 =>
      cases r1 with
      | cons rb r1 =>
        cases r1
        exact ⟨_, _, rfl, fin.nx _ _ h1 _ H1 F1 s1 (((sr.mono s1.sub).set i ra).set j rb)⟩
  · exact h1.elim
end
def dIAdd : DV → DV → Own → DVK → Prop
  | .int i, .int j, O, Q => Q (.int (i + j)) O
  | .str a, .str b, O, Q => a.length + b.length ≤ sizeLine ∧ Q (.str (a ++ b)) O
  | _, _, _, _ => False
def dISub : DV → DV → Own → DVK → Prop
  | .int i, .int j, O, Q => Q (.int (i - j)) O
  | _, _, _, _ => False
def forW (g : DTG) (tb : DTS) (D : DEnds) : List DV → DSt → Own → Prop
  | [], S, O => D.nx S O
  | x :: r, S, O => g x S O fun S2 O2 => tb { D with nx := forW g tb D r, ct := forW g tb D r, bk := D.nx } S2 O2
def dFor (di : DTI) (g : DTG) (tb : DTS) (D : DEnds) (S : DSt) (O : Own) : Prop := di S O fun ds O1 => forW g tb D ds S O1
theorem ds_for {X : Cx} {tg iter : Expr} {body : List Stmt} {di : DTI} {g : DTG} {tb : DTS} {pos : Pos} (hp : PassesOwn (model X.prog X.w) X.A X.env X.xe) (hc : X.calm = true) (hi : DI XW X tg iter di) (hg : DG XW X tg g) (hb : DSs XW X body tb)
    (hs : ∀ x, foldedSetIterable iter X.env x = pure x := by intro _; rfl) : DS XW X (.For tg iter body [] pos) (dFor di g tb) := by
  refine ⟨fun g0 hg0 => PS_imp (ps_for hp hc (hi.pi g0 hg0) (hg.pg g0 hg0) (hb.ps g0 hg0) hs) ?_⟩
  rintro VD σ H ⟨F, O, S, D, rs, sr, h, fin⟩
  refine ⟨F, O, S, _, rs, sr, h, fun ds O1 h1 J H1 F1 s1 y => ?_⟩
  refine ⟨fun i m σ' H' => m = ds.length - i ∧ ∃ F' O' S', Stp (kg X g0) F1 O1 H1 F' O' H' ∧ SR X.K F' σ' S' ∧ forW g tb D (ds.drop i) S' O', ⟨_, rfl, F1, O1, S, .refl s1.rs, sr.mono s1.sub, h1⟩, ?_⟩
  rintro i m σ' H' ⟨em, F', O', S', s', sr', h'⟩
  obtain ⟨y1, y2⟩ := y i O' H' F' s'.sub s'.rs
  by_cases hi : i < ds.length
  · have e0 : ds[i]? = some ds[i] := List.getElem?_eq_getElem hi
    rw [List.drop_eq_getElem_cons hi] at h'
    obtain ⟨hg, hy⟩ := y1 _ e0
    refine .inr ⟨hg, fun σ2 H2 => ∃ F2 O2 S2, Stp (kg X g0) F1 O1 H1 F2 O2 H2 ∧ SR X.K F2 σ2 S2 ∧ forW g tb D (ds.drop (i + 1)) S2 O2, fun σ2 H2 q => ⟨_, ?_, rfl, q⟩, fun x H2 q => ?_⟩
    · omega
    · obtain ⟨F3, s3, r3⟩ := hy x H2 q
      refine ⟨F3, O', S', _, _, s3.rs, sr'.mono s3.sub, r3, h', fun S4 O4 h4 σ4 H4 F4 s4 sr4 => ⟨F4, O4, S4, _, s4.rs, sr4, h4, ?_⟩⟩
      have st := s'.trans (s3.trans s4)
      refine ⟨fun S2 O2 h2 σ2 H2 F2 s2 sr2 => ⟨F2, O2, S2, st.trans s2, sr2, h2⟩, (fin.step s1).rt.step st, (fin.step s1).nx.step st, fun S2 O2 h2 σ2 H2 F2 s2 sr2 => ⟨F2, O2, S2, st.trans s2, sr2, h2⟩⟩
  · rw [List.drop_eq_nil_of_le (by omega)] at h'
    exact .inl ⟨y2 (by omega), fin.nx _ _ h' _ H' F' (s1.trans s') sr'⟩
theorem forW_by {g : DTG} {tb : DTS} {D : DEnds} {α : Type} (f : α → DSt) (o : α → Own) (ds : List DV) (I : Nat → α → Prop)
    (step : ∀ (i : Nat) (x : α) (d : DV) (nx : DSt → Own → Prop), ds[i]? = some d → I i x → (∀ y, I (i + 1) y → nx (f y) (o y)) → g d (f x) (o x) fun S2 O2 => tb { D with nx := nx, ct := nx, bk := D.nx } S2 O2)
    (done : ∀ x, I ds.length x → D.nx (f x) (o x)) (x0 : α) {S : DSt} {O : Own} (hS : f x0 = S) (hO : o x0 = O) (h0 : I 0 x0) : forW g tb D ds S O := by
  have key : ∀ (n i : Nat) (x : α), i + n = ds.length → I i x → forW g tb D (ds.drop i) (f x) (o x) := by
    intro n
    induction n with
    | zero =>
      intro i x h hI
      rw [List.drop_eq_nil_of_le (by omega)]
      have : i = ds.length := by omega
      subst this
      exact done x hI
    | succ n ih =>
      intro i x h hI
      have hi : i < ds.length := by omega
      rw [List.drop_eq_getElem_cons hi]
      exact step i x _ _ (List.getElem?_eq_getElem hi) hI fun y hy => ih (i + 1) y (by omega) hy
  subst hS; subst hO
  exact key ds.length 0 x0 (by omega) h0
end DL
set_option Elab.async false
set_option linter.all false
set_option maxRecDepth 100000
namespace DL
open PySem PySem.Spec PyProof.Rows L2 TL
variable {XW : DXK}
theorem yields_lst {K : KG} {F : Hp} {a : Addr} {vs : List V} {ds : List DV} (h : ∀ (O : Own) (H F2 : Hp), Sub F F2 → RS K F2 O H → SqL K H a vs)  (r : Reps K F vs ds) : Yields K F (Itl K a) ds := by
  intro i O H F2 s rs
  have h0 := h O H F2 s rs
  refine ⟨fun d e => ?_, fun e => ⟨vs, h0, by rw [r.len]; exact e⟩⟩
  obtain ⟨v, h1, h2⟩ := r.get e
  refine ⟨⟨vs, v, h0, h1⟩, fun x H' ⟨q1, q2⟩ => ?_⟩
  subst q1
  have := q2 vs h0
  rw [h1] at this; cases this
  exact ⟨F2, .refl rs, h2.mono s⟩
def kLst (Q : List DV → Own → Prop) : DV → Own → Prop
  | .lst xs, O' => Q xs O'
  | .slst xs, O' => Q xs O'
  | _, _ => False
def kTup (Q : List DV → Own → Prop) : DV → Own → Prop
  | .tup xs, O' => Q xs O'
  | .stup xs, O' => Q xs O'
  | _, _ => False
def kStr (Q : Str → Own → Prop) : DV → Own → Prop
  | .str x, O' => Q x O'
  | _, _ => False
def kRng1 (Q : List DV → Own → Prop) : List DV → Own → Prop
  | [.int j], O' => (-(2 ^ 62) ≤ j ∧ j < 2 ^ 62) ∧ Q ((List.range j.toNat).map fun (k : Nat) => .int (k : Int)) O'
  | _, _ => False
def kRng2 (Q : List DV → Own → Prop) : List DV → Own → Prop
  | [.int i, .int j], O' => (-(2 ^ 62) ≤ i ∧ i < 2 ^ 62 ∧ -(2 ^ 62) ≤ j ∧ j < 2 ^ 62) ∧ Q ((List.range (j - i).toNat).map fun (k : Nat) => .int (i + (k : Int))) O'
  | _, _ => False
def dILst (t : DTE) (S : DSt) (O : Own) (Q : List DV → Own → Prop) : Prop := t S O (kLst Q)
def dITup (t : DTE) (S : DSt) (O : Own) (Q : List DV → Own → Prop) : Prop := t S O (kTup Q)
def dIStr (t : DTE) (S : DSt) (O : Own) (Q : List DV → Own → Prop) : Prop := t S O (kStr fun x O' => Q ((tl x).map fun c => .str ⟨#[c]⟩) O')
def dIRng1 (t : DTA) (S : DSt) (O : Own) (Q : List DV → Own → Prop) : Prop := t S O (kRng1 Q)
def dIRng2 (t : DTA) (S : DSt) (O : Own) (Q : List DV → Own → Prop) : Prop := t S O (kRng2 Q)
def enumD : Nat → List DV → List DV
  | _, [] => []
  | n, x :: r => .tup [.int (n : Int), x] :: enumD (n + 1) r
def kEnum (Q : List DV → Own → Prop) : List DV → Own → Prop
  | [.lst xs], O' => Q (enumD 0 xs) O'
  | [.slst xs], O' => Q (enumD 0 xs) O'
  | _, _ => False
def dIEnum (t : DTA) (S : DSt) (O : Own) (Q : List DV → Own → Prop) : Prop := t S O (kEnum Q)
def zipD : List DV → List DV → List DV
  | x :: r, y :: q => .tup [x, y] :: zipD r q
  | _, _ => []
def kZip (Q : List DV → Own → Prop) : List DV → Own → Prop
  | [.lst xs, .lst ys], O' => Q (zipD xs ys) O'
  | _, _ => False
def dIZip (t : DTA) (S : DSt) (O : Own) (Q : List DV → Own → Prop) : Prop := t S O (kZip Q)
section
variable {X : Cx} {tg e e2 : Expr} {te : DTE} {ta : DTA} {p pos tpos : Pos}
theorem di_list (h : DE XW X e te) : DI XW X tg e (dILst te) := by
  refine ⟨fun g0 hg0 => PI_imp (pi_list (h.pe g0 hg0)) ?_⟩
  rintro σ H R ⟨F, O, S, Q, rs, sr, h, fin⟩
  refine ⟨F, O, S, _, rs, sr, h, fun d O1 h1 v H1 F1 s1 rv => ?_⟩
  cases rv with
  | @lst a vs ds e r => exact ⟨a, rfl, ⟨vs, SqL.of (s1.rs.lst e)⟩, fin _ _ h1 _ H1 F1 s1 (yields_lst (vs := vs) (fun O H F2 s rs => SqL.of (rs.lst (s _ _ e))) r)⟩
  | @slst a vs ds e r => exact ⟨a, rfl, ⟨vs, s1.rs.sqL e⟩, fin _ _ h1 _ H1 F1 s1 (yields_lst (vs := vs) (fun O H F2 s rs => rs.sqL (SqL.sub s e)) r)⟩
  | _ => exact h1.elim
theorem di_str (h : DE XW X e te) : DI XW X tg e (dIStr te) := by
  refine ⟨fun g0 hg0 => PI_imp (pi_str (h.pe g0 hg0)) ?_⟩
  rintro σ H R ⟨F, O, S, Q, rs, sr, h, fin⟩
  refine ⟨F, O, S, _, rs, sr, h, fun d O1 h1 v H1 F1 s1 rv => ?_⟩
  cases rv with
  | str z =>
    refine ⟨z, rfl, fin _ _ h1 _ H1 F1 s1 ?_⟩
    intro i O H F2 s rs
    have hl : (tl z).length = z.cps.size := by simp [TL.tl]
    refine ⟨fun d e => ?_, fun e => by show z.cps.size ≤ i; simpa [hl] using e⟩
    rw [List.getElem?_map] at e
    have hi : i < (tl z).length := by
      rcases Nat.lt_or_ge i (tl z).length with q | q
      · exact q
      · rw [List.getElem?_eq_none q] at e; cases e
    refine ⟨by show i < z.cps.size; omega, fun x H' ⟨q1, c, q2, q3⟩ => ?_⟩
    subst q1; subst q3
    have q4 : (tl z)[i]? = some c := by simpa [TL.tl] using q2
    rw [q4] at e; cases e
    exact ⟨F2, .refl rs, .str _⟩
  | _ => exact h1.elim
theorem yields_rng {K : KG} {F : Hp} (lo : Int) (n : Nat) : Yields K F (Itr lo n) ((List.range n).map fun (k : Nat) => .int (lo + (k : Int))) := by
  intro i O H F2 s rs
  refine ⟨fun d e => ?_, fun e => by show n ≤ i; simpa using e⟩
  rw [List.getElem?_map] at e
  have hi : i < n := by
    rcases Nat.lt_or_ge i n with q | q
    · exact q
    · rw [List.getElem?_eq_none (by simpa using q)] at e; cases e
  rw [List.getElem?_range hi] at e
  cases e
  exact ⟨hi, fun x H' ⟨q1, q2⟩ => by subst q1; subst q2; exact ⟨F2, .refl rs, .int _⟩⟩
theorem di_range1 (hm : X.mg "range" = none) (ha : DA XW X [e] ta) (hg : Gl X "range" := by rfl) (hs : starEach [e] X.env = [(false, eval e X.env)] := by rfl) : DI XW X tg (.Call (.Name "range" p) [e] [] pos) (dIRng1 ta) := by
  refine ⟨fun g0 hg0 => PI_imp (pi_range1 hg hm (ha.pa g0 hg0) hs) ?_⟩
  rintro σ H R ⟨F, O, S, Q, rs, sr, h, fin⟩
  refine ⟨F, O, S, _, rs, sr, h, fun ds O1 h1 vs H1 F1 s1 rr => ?_⟩
  unfold kRng1 at h1
  split at h1
  · rename_i j
    obtain ⟨v, rfl, r⟩ := rr.one
    cases r
    refine ⟨j, rfl, h1.1.1, h1.1.2, fin _ _ h1.2 _ H1 F1 s1 ?_⟩
    have := yields_rng (K := kg X g0) (F := F1) 0 j.toNat
    simpa using this
  · exact h1.elim
end
def dwipe (S : DSt) : List Nat → DSt
  | [] => S
  | v :: vs => (dwipe S vs).set v none
theorem SR.none {K : KG} {F : Hp} {σ : L2.St} {S : DSt} (h : SR K F σ S) (i : Nat) : SR K F (σ.set i none) (S.set i none) := by
  refine ⟨by simp [h.1], fun j e q => ?_⟩
  by_cases hj : j = i
  · subst hj
    have hl : j < S.length := by
      have := (List.getElem?_eq_some_iff.mp q).1
      simpa using this
    rw [List.getElem?_set_self hl] at q
    cases q
  · rw [List.getElem?_set_ne (Ne.symm hj)] at q ⊢
    exact h.2 j e q
theorem SR.wipe {K : KG} {F : Hp} {σ : L2.St} {S : DSt} (h : SR K F σ S) : ∀ vs : List Nat, SR K F (L2.wipe σ vs) (dwipe S vs)
  | [] => h
  | v :: vs => (SR.wipe h vs).none v
theorem wipe_set {σ : L2.St} {i : Nat} {x : Option V} : ∀ {vs : List Nat}, i ∈ vs → L2.wipe (σ.set i x) vs = L2.wipe σ vs
  | [], h => absurd h (by simp)
  | v :: vs, h => by
    show (L2.wipe (σ.set i x) vs).set v _ = (L2.wipe σ vs).set v _
    by_cases hv : i ∈ vs
    · rw [wipe_set hv]
    · have e : i = v := by
        rcases List.mem_cons.mp h with e | e
        · exact e
        · exact absurd e hv
      subst e
      have : ∀ (us : List Nat), i ∉ us → L2.wipe (σ.set i x) us = (L2.wipe σ us).set i x := by
        intro us
        induction us with
        | nil => intro _; rfl
        | cons u us ih =>
          intro hu
          have h1 : i ∉ us := fun z => hu (List.mem_cons_of_mem _ z)
          have h2 : i ≠ u := fun z => hu (by simp [z])
          show (L2.wipe (σ.set i x) us).set u _ = ((L2.wipe σ us).set u _).set i x
          rw [ih h1, List.set_comm _ _ h2]
      rw [this vs hv, List.set_set]
theorem wipe_wipe {σ : L2.St} {ws : List Nat} : ∀ {vs : List Nat}, (∀ v ∈ vs, v ∈ ws) → L2.wipe (L2.wipe σ vs) ws = L2.wipe σ ws
  | [], _ => rfl
  | v :: vs, h => by
    show L2.wipe ((L2.wipe σ vs).set v _) ws = _
    rw [wipe_set (h v List.mem_cons_self)]
    exact wipe_wipe fun u hu => h u (List.mem_cons_of_mem _ hu)
structure TgtOk (K : PySem.W.Frag) (g : TG) (b : DV → DSt → Option DSt) (vs : List Nat) : Prop where
  ok : ∀ {F : Hp} {O : Own} {H : Hp} {v : V} {d : DV} {σ : L2.St} {S S2 : DSt} {Q : L2.St → Hp → Prop}, RS0 K F O H → Rep K F v d → SR K F σ S → b d S = some S2 → (∀ σ2, SR K F σ2 S2 → L2.wipe σ2 vs = L2.wipe σ vs → Q σ2 H) → g v σ H Q
def bind1 (i : Nat) : DV → DSt → Option DSt := fun d S => some (S.set i (some d))
theorem tgt_1 {K : PySem.W.Frag} {i : Nat} {vs : List Nat} (hi : i ∈ vs) : TgtOk K (gName i) (bind1 i) vs :=
  ⟨fun rs r sr e h => by cases e; exact h _ (sr.set i r) (wipe_set hi)⟩
def setAll : DSt → List Nat → List DV → Option DSt
  | S, [], [] => some S
  | S, i :: is, d :: ds => setAll (S.set i (some d)) is ds
  | _, _, _ => none
def bindN (is : List Nat) : DV → DSt → Option DSt
  | .tup ds, S => setAll S is ds
  | _, _ => none
structure DTs (XW : DXK) (X : Cx) (ifs : List Expr) (t : DTT) : Prop where
  pts : ∀ g, Good XW X g → PTs X ifs (liftT (kg X g) t)
def dYes (u0_ : DSt) (O : Own) (Q : Bool → Own → Prop) : Prop := Q true O
theorem PTs_imp {X : Cx} {e : List Expr} {t t' : TT} (h : PTs X e t) (i : ∀ σ H Q, t' σ H Q → t σ H Q) : PTs X e t' := ⟨fun pins s σ H Q I q => h.run pins s σ H Q I (i σ H Q q)⟩
theorem dts_nil {X : Cx} : DTs XW X [] dYes := ⟨fun g0 hg0 => PTs_imp pts_nil fun σ H VQ ⟨F, O, S, Q, rs, sr, h, fin⟩ => fin _ _ h H F (.refl rs)⟩
theorem dts_one {X : Cx} {c : Expr} {t : DTT} (h : DT XW X c t) : DTs XW X [c] t := ⟨fun g0 hg0 => pts_one (h.pt g0 hg0)⟩
theorem Stp.side {K : KG} {F H F' H' : Hp} {O O' : Own} {D : Addr} (r : RS K F O H) (s : Stp K F O H F' O' H') (h : H D = none) (hf : F' D = none) (ho : O' D = none) (o : HO) : Stp K F O H F' O' (upd H' D o) := by
  refine Stp.mk' r s.sub ⟨fun b u e => ?_, fun b c e => ?_⟩ (fun b u h1 h2 => ?_) s.nof
  · rw [upd_ne (fun z => by subst z; rw [hf] at e; cases e)]; exact s.rs.fro b u e
  · obtain ⟨h1, h2⟩ := s.rs.own b c e
    exact ⟨h1, h2.mono (Sub.refl _) (upd_ne (fun z => by subst z; rw [ho] at e; cases e))⟩
  · obtain ⟨h3, h4⟩ := s.keep b u h1 h2
    exact ⟨by rw [upd_ne (fun z => by subst z; rw [h] at h1; cases h1)]; exact h3, h4⟩
def endLc : Bool → DVK → List DV → Own → Prop
  | false, Q, acc, O => Q (.lst acc) O
  | true, Q, acc, O => ∀ p, O p = none → Q (.ref p) (oset O p (.lst acc))
theorem endLc_ok {K : KG} {F H F' H' : Hp} {O O' : Own} {D : Addr} {vacc : List V} {acc : List DV} {ow : Bool} {Q : DVK} {VQ : VK} (r : RS K F O H) (s' : Stp K F O H F' O' H') (hD : H D = none) (hd' : H' D = some (.lst vacc)) (hf' : F' D = none) (ho' : O' D = none) (ra : Reps K F' vacc acc)
    (h : endLc ow Q acc O') (fin : FinE K F O H Q VQ) : VQ (.ref D) H' := by
  cases ow with
  | false =>
    refine fin _ _ h _ H' (upd F' D (.lst vacc)) (Stp.mk' r (s'.sub.trans (Sub.upd hf')) ⟨fun b u e => ?_, fun b c e => ?_⟩ s'.keep (fun b u h1 h2 h3 => ?_)) (.lst upd_same (ra.mono (Sub.upd hf')))
    · by_cases hb : b = D
      · subst hb; rw [upd_same] at e; cases e; exact .inl hd'
      · rw [upd_ne hb] at e; exact s'.rs.fro b u e
    · have hb : b ≠ D := fun z => by subst z; rw [ho'] at e; cases e
      obtain ⟨h3, h4⟩ := s'.rs.own b c e
      exact ⟨by rw [upd_ne hb]; exact h3, h4.mono (Sub.upd hf') rfl⟩
    · rw [upd_ne (fun z => by subst z; rw [hD] at h1; cases h1)]; exact s'.nof b u h1 h2 h3
  | true =>
    refine fin _ _ (h D ho') _ H' F' (Stp.mk' r s'.sub ⟨s'.rs.fro, fun b c e => ?_⟩ (fun b u h1 h2 => ?_) s'.nof) (.ref D)
    · by_cases hb : b = D
      · subst hb; rw [oset_same] at e; cases e
        exact ⟨hf', vacc, hd', ra⟩
      · rw [oset_ne hb] at e; exact s'.rs.own b c e
    · have hb : b ≠ D := fun z => by subst z; rw [hD] at h1; cases h1
      rw [oset_ne hb]; exact s'.keep b u h1 h2
def lcW (ow : Bool) (b : DV → DSt → Option DSt) (tt : DTT) (te : DTE) (S : DSt) (Q : DVK) : List DV → List DV → Own → Prop
  | [], acc, O => endLc ow Q acc O
  | x :: r, acc, O => onSome (b x S) fun S2 => tt S2 O fun c O2 => if c = true then te S2 O2 fun y O3 => acc.length < 16000000 ∧ lcW ow b tt te S Q r (acc ++ [y]) O3 else lcW ow b tt te S Q r acc O2
def dLc (ow : Bool) (di : DTI) (b : DV → DSt → Option DSt) (tt : DTT) (te : DTE) (vs : List Nat) (S : DSt) (O : Own) (Q : DVK) : Prop := di S O fun ds O1 => lcW ow b tt te (dwipe S vs) Q ds [] O1
theorem lc_line {n : Nat} (h : n < 16000000) : n < sizeLine := by
  have := sizeLine_eq
  omega
theorem liftLc {K : KG} {ow : Bool} {di : DTI} {g : TG} {b : DV → DSt → Option DSt} {tt : DTT} {te : DTE} {vs : List Nat} (hg : TgtOk K.f g b vs) {σ : L2.St} {H : Hp} {VQ : VK} (h : liftE K (dLc ow di b tt te vs) σ H VQ) :
    tLc (liftI K di) g (liftT ⟨K.f, X0, L2.E0⟩ tt) (liftE ⟨K.f, X0, L2.E0⟩ te) vs σ H VQ := by
  obtain ⟨F, O, S, Q, rs, sr, h, fin⟩ := h
  refine ⟨F, O, S, _, rs, sr, h, fun ds O1 h1 J H1 F1 s1 y D hD => ?_⟩
  obtain ⟨hf1, ho1⟩ := s1.rs.free hD
  refine ⟨fun i m H' => m = ds.length - i ∧ ∃ F' O' acc vacc, Stp K F1 O1 H1 F' O' H' ∧ H' D = some (.lst vacc) ∧ F' D = none ∧ O' D = none ∧ Reps K F' vacc acc ∧ lcW ow b tt te (dwipe S vs) Q (ds.drop i) acc O',
    ⟨_, rfl, F1, O1, [], [], (Stp.refl s1.rs).side s1.rs hD hf1 ho1 _, upd_same, hf1, ho1, .nil, h1⟩, ?_⟩
  rintro i m H' ⟨em, F', O', acc, vacc, s', hd', hf', ho', ra, h'⟩
  obtain ⟨y1, y2⟩ := y i O' H' F' s'.sub s'.rs
  by_cases hi : i < ds.length
  · have e0 : ds[i]? = some ds[i] := List.getElem?_eq_getElem hi
    rw [List.drop_eq_getElem_cons hi] at h'
    obtain ⟨hgo, hy⟩ := y1 _ e0
    refine .inr ⟨hgo, fun H2 => ∃ F' O' acc vacc, Stp K F1 O1 H1 F' O' H2 ∧ H2 D = some (.lst vacc) ∧ F' D = none ∧ O' D = none ∧ Reps K F' vacc acc ∧ lcW ow b tt te (dwipe S vs) Q (ds.drop (i + 1)) acc O', fun H2 q => ⟨_, ?_, rfl, q⟩, fun x H2 q => ?_⟩
    · omega
    · obtain ⟨F3, s3, r3⟩ := hy x H2 q
      unfold lcW at h'
      obtain ⟨S2, e2, h'⟩ := onSome_ex h'
      · refine hg.ok s3.rs.z r3 (((sr.mono s1.sub).mono s'.sub).mono s3.sub |>.wipe vs) e2 fun σ2 sr2 ew => ⟨ew.trans (wipe_wipe fun _ h => h), F3, O', S2, _, s3.rs.drop, sr2, h', fun c O4 h4 H4 F4 s4' => ?_⟩
        have s4 := s4'.up s3.rs
        have st4 := s3.trans s4
        dsimp only at h4 ⊢
        split
        · rename_i e; rw [if_pos e] at h4
          refine ⟨F4, O4, S2, _, s4.rs.drop, sr2.mono s4.sub, h4, fun d O5 h5 v H5 F5 s5' r5 => ?_⟩
          have s5 := s5'.up s4.rs
          have st5 := st4.trans s5
          obtain ⟨k1, k2⟩ := st5.keep D _ hd' ho'
          have k3 := st5.nof D _ hd' ho' hf'
          exact ⟨vacc, k1, by rw [ra.len]; exact lc_line h5.1, F5, O5, _, _, (s'.trans st5).side s1.rs hD k3 k2 _, upd_same, k3, k2, (ra.mono st5.sub).append (.cons r5 .nil), h5.2⟩
        · rename_i e; rw [if_neg e] at h4
          obtain ⟨k1, k2⟩ := st4.keep D _ hd' ho'
          have k3 := st4.nof D _ hd' ho' hf'
          exact ⟨F4, O4, acc, vacc, s'.trans st4, k1, k3, k2, ra.mono st4.sub, h4⟩
  · rw [List.drop_eq_nil_of_le (by omega)] at h'
    exact .inl ⟨y2 (by omega), endLc_ok s1.rs s' hD hd' hf' ho' ra h' (fin.step s1)⟩
section
variable {X : Cx}
theorem de_lc (ow : Bool) {elt tg iter : Expr} {ifs : List Expr} {scope : Scope} {own : List (Str × Nat)} {pos : Pos} {di : DTI} {g : TG} {b : DV → DSt → Option DSt} {tt : DTT} {te : DTE} (hc : X.calm = true) (hN : X.N.Nodup) (hi : DI XW X tg iter di) (ok : BlkOk X.N X.env.scope scope own) (hT : TgtOk X.K g b (own.map (·.2)))
    (hg : ∀ (s : Shared) (H : Hp) (C : Addr) (cl : List (Str × Addr)) (fp : List Addr), PG (X.blk s H scope (compEnvC scope cl C X.env) fp) tg g) (ht : ∀ (s : Shared) (H : Hp) (C : Addr) (cl : List (Str × Addr)) (fp : List Addr), DTs X0 (X.blk s H scope (compEnvC scope cl C X.env) fp) ifs tt)
    (he : ∀ (s : Shared) (H : Hp) (C : Addr) (cl : List (Str × Addr)) (fp : List Addr), DE X0 (X.blk s H scope (compEnvC scope cl C X.env) fp) elt te) (hs : ∀ x, foldedSetIterable iter X.env x = pure x := by intro _; rfl) :
    DE XW X (.ListComp elt [⟨tg, iter, ifs, 0⟩] scope pos) (dLc ow di b tt te (own.map (·.2))) :=
  ⟨fun g0 hg0 => PE_imp (pe_lc (te := liftE ⟨X.K, X0, L2.E0⟩ te) (tt := liftT ⟨X.K, X0, L2.E0⟩ tt) hc hN (hi.pi g0 hg0) ok hg (fun s H C cl fp => (ht s H C cl fp).pts (X0, L2.E0) (good_of (takesL) fun _ _ _ h => h)) (fun s H C cl fp => (he s H C cl fp).pe (X0, L2.E0) (good_of (takesL) fun _ _ _ h => h)) hs) fun _ _ _ h => liftLc hT h⟩
theorem ds_setLc (ow : Bool) (i : Nat) {y : Str} {py : Pos} {elt tg iter : Expr} {ifs : List Expr} {scope : Scope} {own : List (Str × Nat)} {pos spos : Pos} {di : DTI} {g : TG} {b : DV → DSt → Option DSt} {tt : DTT} {te : DTE} (hc : X.calm = true) (hN : X.N.Nodup) (hsw : swapsWith (.ListComp elt [⟨tg, iter, ifs, 0⟩] scope pos) (some (.Name y py)) spos.line X.env = pure true) (hi : DI XW X tg iter di) (ok : BlkOk X.N X.env.scope scope own) (hT : TgtOk X.K g b (own.map (·.2)))
    (hg : ∀ (s : Shared) (H : Hp) (C : Addr) (cl : List (Str × Addr)) (fp : List Addr), PG (X.blk s H scope (compEnvC scope cl C X.env) fp) tg g) (ht : ∀ (s : Shared) (H : Hp) (C : Addr) (cl : List (Str × Addr)) (fp : List Addr), DTs X0 (X.blk s H scope (compEnvC scope cl C X.env) fp) ifs tt)
    (he : ∀ (s : Shared) (H : Hp) (C : Addr) (cl : List (Str × Addr)) (fp : List Addr), DE X0 (X.blk s H scope (compEnvC scope cl C X.env) fp) elt te) (hy : X.N[i]? = some y := by rfl) (hyl : X.env.scope.names.lookup y = some .local := by rfl) (hs : ∀ x, foldedSetIterable iter X.env x = pure x := by intro _; rfl) :
    DS XW X (.Assign [.Name y py] (.ListComp elt [⟨tg, iter, ifs, 0⟩] scope pos) spos) (dAsg (dLc ow di b tt te (own.map (·.2))) (dgName i)) := by
  refine ⟨fun g0 hg0 => PS_imp (ps_setLc (i := i) (te := liftE ⟨X.K, X0, L2.E0⟩ te) (tt := liftT ⟨X.K, X0, L2.E0⟩ tt) hc hN hy hyl hsw (hi.pi g0 hg0) ok hg (fun s H C cl fp => (ht s H C cl fp).pts (X0, L2.E0) (good_of (takesL) fun _ _ _ h => h)) (fun s H C cl fp => (he s H C cl fp).pe (X0, L2.E0) (good_of (takesL) fun _ _ _ h => h)) hs) ?_⟩
  rintro VD σ H ⟨F, O, S, D, rs, sr, h, fin⟩
  exact liftLc hT ⟨F, O, S, _, rs, sr, h, fun d O1 h1 v H1 F1 s1 rv => fin.nx _ _ h1 _ H1 F1 s1 ((sr.mono s1.sub).set i rv)⟩
end
end DL
set_option Elab.async false
set_option linter.all false
set_option maxRecDepth 100000
namespace DL
open PySem PySem.Spec PyProof.Rows L2 TL
variable {XW : DXK}
abbrev DSp := List DV → Own → DVK → DXK → Prop
def FinE0 (K : PySem.W.Frag) (F : Hp) (O : Own) (H : Hp) (Q : DVK) (VQ : VK) : Prop := ∀ d O', Q d O' → ∀ v H' F', Raw F O H F' O' H' → RS0 K F' O' H' → Rep K F' v d → VQ v H'
theorem FinE.z {K : KG} {F H : Hp} {O : Own} {Q : DVK} {VQ : VK} (h : FinE K F O H Q VQ) (r : RS K F O H) : FinE0 K.f F O H Q VQ := fun d O' q v H' F' s rs rv => h d O' q v H' F' (Stp.mk' r s.sub rs s.keep s.nof) rv
theorem FinE0.up {K : KG} {F H : Hp} {O : Own} {Q : DVK} {VQ : VK} (h : FinE0 K.f F O H Q VQ) : FinE K F O H Q VQ := fun d O' q v H' F' s rv => h d O' q v H' F' s.raw s.rs.z rv
def liftSp (K : PySem.W.Frag) (sp : DSp) : Sp := fun vs H Q E => ∃ F O ds QD ED, RS0 K F O H ∧ Reps K F vs ds ∧ sp ds O QD ED ∧ FinE0 K F O H QD Q ∧ FinX0 K ED E F O H
def callsp (sp : DSp) (ds : List DV) (O : Own) (Q : DVK) (E : DXK) : Prop := sp ds O Q E
def dCall (sp : DSp) (t : DTA) (S : DSt) (O : Own) (Q : DVK) : Prop := t S O fun ds O1 => callsp sp ds O1 Q X0
def dCallX (XW : DXK) (sp : DSp) (t : DTA) (S : DSt) (O : Own) (Q : DVK) : Prop := t S O fun ds O1 => callsp sp ds O1 Q XW
section
variable {X : Cx} {k : Nat} {f : Addr} {fd : FuncData} {ps : List Str} {sp : DSp} {x : Str} {p pos : Pos} {e : Expr} {es : List Expr} {t : DTA} {CXX : CXT}
theorem x0_fin {K : PySem.W.Frag} {E : XK} {F H : Hp} {O : Own} : FinX0 K X0 E F O H := fun _ _ _ h => h.elim
theorem xw_fin {K : KG} {F H : Hp} {O : Own} (r : RS K F O H) (h : ∀ C fs O, XW C fs O → K.ed C fs O) : FinX0 K.f XW K.e F O H := fun C fs O' q => r.xf C fs O' (h _ _ _ q)
theorem liftCall {K : KG} {sp : DSp} {t : DTA} {σ : L2.St} {H : Hp} {VQ : VK} (h : liftE K (dCall sp t) σ H VQ) : tCall (liftSp K sp) [] E0 (liftA K t) σ H VQ := by
  obtain ⟨F, O, S, Q, rs, sr, h, fin⟩ := h
  exact ⟨F, O, S, _, rs, sr, h, fun ds O1 h1 vs H1 F1 s1 r1 => ⟨F1, O1, ds, Q, X0, s1.rs.z, by simpa using r1, h1, (fin.step s1).z s1.rs, x0_fin⟩⟩
theorem de_call (G : FnOk X.prog X.w X.K X.mg X.base CX0 k f fd ps (liftSp X.K sp)) (hr : Room k X.A) (hm : X.mg x = some (.ref f)) (hk : PySem.W.keepIn X.K (.ref f) = true) (hb : Binds X.K fd ps [])
    (ha : DA XW X (e :: es) t) (hg : Gl X x := by rfl) (hdb : (x == ("__debug__" : Str)) = false := by decide) (he : starEach (e :: es) X.env = (false, eval e X.env) :: starEach es X.env := by rfl) (hpl : (backTo pos (starEach es X.env)).any (·.1) = false := by rfl) :
    DE XW X (.Call (.Name x p) (e :: es) [] pos) (dCall sp t) :=
  ⟨fun g0 hg0 => PE_imp (pe_call G hr hg hm hk hb .nil pass0 (ha.pa g0 hg0) hdb he hpl) fun _ _ _ h => liftCall h⟩
end
def dstart : Nat → List DV → DSt
  | 0, _ => []
  | n + 1, [] => none :: dstart n []
  | n + 1, d :: ds => some d :: dstart n ds
theorem dstart_eq : ∀ {n : Nat} {ds : List DV}, ds.length ≤ n → dstart n ds = ds.map some ++ List.replicate (n - ds.length) none
  | 0, [], _ => rfl
  | 0, _ :: _, h => by simp at h
  | n + 1, [], _ => by
    have := dstart_eq (n := n) (ds := []) (Nat.zero_le _)
    show none :: dstart n [] = _
    rw [this]; simp [List.replicate_succ]
  | n + 1, d :: ds, h => by
    have := dstart_eq (n := n) (ds := ds) (by simpa using h)
    show some d :: dstart n ds = _
    rw [this]; simp
section
variable {P : Program} {w : World} {K : PySem.W.Frag} {mg : Str → Option Value} {base : Heap}
theorem body_fin {K : KG} {F H : Hp} {O : Own} {QD : DVK} {Q : VK} (fin : FinE K F O H QD Q) : FinD K F O H { nx := fun _ O' => QD .non O', rt := QD } { nx := fun _ H' => Q .non H', rt := Q } :=
  ⟨fun S1 O1 q σ1 H1 F1 s1 sr1 => fin _ _ q _ H1 F1 s1 .non, fin, fun _ _ h => h.elim, fun _ _ h => h.elim⟩
theorem DFun.ok {x qual : Str} {st : Stmt} {f : Addr} {fd : FuncData} {N ps : List Str} {k : Nat} {sp : DSp} (F : Fun K x qual st f fd) (S : FnScope N ps (defScope st)) (hn : ps.length ≤ N.length) (len : ∀ ds O Q E, sp ds O Q E → ds.length = ps.length)
    (hbody : ∀ (cdv : Value) (A : Around) (outer : List Env) (s : Shared) (H : Hp) (E : XK) (ds : List DV) (O : Own) (Q : DVK) (ED : DXK), Room k (A.deeper (envOfC qual (defScope st) s.heap.objs.size f cdv)) → sp ds O Q ED →
      ∃ t, DSs X0 (cxOf CX0 P w K mg base N qual (defScope st) f cdv A outer s H E).nox (defBody st) t ∧ t { nx := fun _ O' => Q .non O', rt := Q } (dstart N.length ds) O) : FnOk P w K mg base CX0 (k + 1) f fd ps (liftSp K sp) := by
  refine F.ok S (fun vs H Q E h => ?_) (fun cdv A outer s H vs Q E hr h => ?_)
  · obtain ⟨F, O, ds, QD, ED, rs, r, h, _⟩ := h
    rw [r.len]; exact len _ _ _ _ h
  · obtain ⟨F, O, ds, QD, ED, rs, r, h, fin, _⟩ := h
    obtain ⟨t, h1, h2⟩ := hbody cdv A outer s H E ds O QD ED hr h
    refine ⟨_, h1.ps (X0, L2.E0) (good_of (takesL) fun _ _ _ h => h), F, O, _, _, rs.low, ?_, h2, body_fin fin.up⟩
    have hl := len _ _ _ _ h
    rw [dstart_eq (by omega)]
    exact SR.start N r
theorem DFun.okX {x qual : Str} {st : Stmt} {f : Addr} {fd : FuncData} {N ps : List Str} {k : Nat} {sp : DSp} (F : Fun K x qual st f fd) (S : FnScope N ps (defScope st)) (hn : ps.length ≤ N.length) (len : ∀ ds O Q E, sp ds O Q E → ds.length = ps.length)
    (hbody : ∀ (cdv : Value) (A : Around) (outer : List Env) (s : Shared) (H : Hp) (E : XK) (ds : List DV) (O : Own) (Q : DVK) (ED : DXK), Room k (A.deeper (envOfC qual (defScope st) s.heap.objs.size f cdv)) → sp ds O Q ED →
      ∃ t, DSs ED (cxOf (L2.CX P w) P w K mg base N qual (defScope st) f cdv A outer s H E) (defBody st) t ∧ t { nx := fun _ O' => Q .non O', rt := Q } (dstart N.length ds) O) : FnOk P w K mg base (L2.CX P w) (k + 1) f fd ps (liftSp K sp) := by
  refine F.okX S (fun vs H Q E h => ?_) (fun cdv A outer s H vs Q E hr h => ?_)
  · obtain ⟨F, O, ds, QD, ED, rs, r, h, _⟩ := h
    rw [r.len]; exact len _ _ _ _ h
  · obtain ⟨F, O, ds, QD, ED, rs, r, h, fin, finx⟩ := h
    obtain ⟨t, h1, h2⟩ := hbody cdv A outer s H E ds O QD ED hr h
    refine ⟨_, h1.ps (ED, E) (good_of (takes_of rfl rfl rfl rfl) fun _ _ _ h => h), F, O, _, _, ⟨rs.fro, rs.own, finx⟩, ?_, h2, body_fin (K := ⟨K, ED, E⟩) fin.up⟩
    have hl := len _ _ _ _ h
    rw [dstart_eq (by omega)]
    exact SR.start N r
theorem fn_false {CXX : CXT} {f : Addr} {fd : FuncData} {ps : List Str} {k : Nat} {sp : DSp} (h : ∀ ds O Q E, sp ds O Q E → False) : FnOk P w K mg base CXX k f fd ps (liftSp K sp) where
  len := fun vs H Q E ⟨F, O, ds, QD, ED, _, _, q, _⟩ => (h _ _ _ _ q).elim
  run := fun A outer s H args us vs Q E _ _ _ _ ⟨F, O, ds, QD, ED, _, _, q, _⟩ => (h _ _ _ _ q).elim
end
end DL
namespace DL
open PySem PySem.Spec PyProof.Rows L2 TL
theorem seq_r {t u : DTS} {D : DEnds} {S : DSt} {O : Own} (h : ∀ R : DSt → Own → Prop, R = u D → t { D with nx := R } S O) : dSeq t u D S O := h _ rfl
end DL
set_option Elab.async false
set_option linter.all false
set_option maxRecDepth 100000
namespace DL
open PySem PySem.Spec PyProof.Rows L2 TL
variable {XW : DXK}
section
variable {κ : Type} [DecidableEq κ]
def dget (es : List (κ × DV)) (k : κ) : Option DV := (es.find? fun kv => decide (kv.1 = k)).map (·.2)
def dput (es : List (κ × DV)) (k : κ) (v : DV) : List (κ × DV) :=
  if (es.any fun kv => decide (kv.1 = k)) = true then es.map (fun kv => if kv.1 = k then (kv.1, v) else kv) else es ++ [(k, v)]
def dmerge (es more : List (κ × DV)) : List (κ × DV) := more.foldl (fun acc kv => dput acc kv.1 kv.2) es
end
section
variable {K : KG} {F : Hp}
theorem RepK.get : ∀ {kvs : List (Key × V)} {es : List (Key × DV)} {k : Key}, RepK K F kvs es → (∀ d, dget es k = some d → ∃ v, valV kvs k = some v ∧ Rep K F v d) ∧ (dget es k = none → valV kvs k = none)
  | _, _, k, .nil => ⟨fun d h => (by cases h), fun _ => rfl⟩
  | _, _, k, .cons (k := k') (v := v) (d := d) r q => by
    obtain ⟨h1, h2⟩ := RepK.get (k := k) q
    by_cases e : k' = k
    · refine ⟨fun d' h => ⟨v, valV_pos e, ?_⟩, fun h => ?_⟩
      · simp [dget, List.find?_cons, e] at h
        subst h; exact r
      · simp [dget, List.find?_cons, e] at h
    · have ed : ∀ r', dget ((k', d) :: r') k = dget r' k := fun r' => by simp [dget, List.find?_cons, e]
      refine ⟨fun d' h => ?_, fun h => ?_⟩
      · rw [ed] at h; rw [valV_neg e]; exact h1 d' h
      · rw [ed] at h; rw [valV_neg e]; exact h2 h
theorem RepT.get : ∀ {kvs : List (List Key × V)} {es : List (List Key × DV)} {k : List Key}, RepT K F kvs es → (∀ d, dget es k = some d → ∃ v, valV kvs k = some v ∧ Rep K F v d) ∧ (dget es k = none → valV kvs k = none)
  | _, _, k, .nil => ⟨fun d h => (by cases h), fun _ => rfl⟩
  | _, _, k, .cons (k := k') (v := v) (d := d) r q => by
    obtain ⟨h1, h2⟩ := RepT.get (k := k) q
    by_cases e : k' = k
    · refine ⟨fun d' h => ⟨v, valV_pos e, ?_⟩, fun h => ?_⟩
      · simp [dget, List.find?_cons, e] at h
        subst h; exact r
      · simp [dget, List.find?_cons, e] at h
    · have ed : ∀ r', dget ((k', d) :: r') k = dget r' k := fun r' => by simp [dget, List.find?_cons, e]
      refine ⟨fun d' h => ?_, fun h => ?_⟩
      · rw [ed] at h; rw [valV_neg e]; exact h1 d' h
      · rw [ed] at h; rw [valV_neg e]; exact h2 h
theorem RepK.any (k : Key) : ∀ {kvs : List (Key × V)} {es : List (Key × DV)}, RepK K F kvs es → (kvs.any fun kv => decide (kv.1 = k)) = (es.any fun kv => decide (kv.1 = k))
  | _, _, .nil => rfl
  | _, _, .cons r q => by rw [List.any_cons, List.any_cons, RepK.any k q]
theorem RepT.any (k : List Key) : ∀ {kvs : List (List Key × V)} {es : List (List Key × DV)}, RepT K F kvs es → (kvs.any fun kv => decide (kv.1 = k)) = (es.any fun kv => decide (kv.1 = k))
  | _, _, .nil => rfl
  | _, _, .cons r q => by rw [List.any_cons, List.any_cons, RepT.any k q]
theorem RepK.append : ∀ {a b : List (Key × V)} {c d : List (Key × DV)}, RepK K F a c → RepK K F b d → RepK K F (a ++ b) (c ++ d)
  | _, _, _, _, .nil, q => q
  | _, _, _, _, .cons r p, q => .cons r (RepK.append p q)
theorem RepT.append : ∀ {a b : List (List Key × V)} {c d : List (List Key × DV)}, RepT K F a c → RepT K F b d → RepT K F (a ++ b) (c ++ d)
  | _, _, _, _, .nil, q => q
  | _, _, _, _, .cons r p, q => .cons r (RepT.append p q)
theorem RepK.mapPut {k : Key} {v : V} {d : DV} (r : Rep K F v d) : ∀ {kvs : List (Key × V)} {es : List (Key × DV)}, RepK K F kvs es → RepK K F (kvs.map fun kv => if kv.1 = k then (kv.1, v) else kv) (es.map fun kv => if kv.1 = k then (kv.1, d) else kv)
  | _, _, .nil => .nil
  | _, _, .cons (k := k') p q => by
    rw [List.map_cons, List.map_cons]
    by_cases e : k' = k
    · simp only [e, if_true]; exact .cons r (RepK.mapPut r q)
    · simp only [e, if_false]; exact .cons p (RepK.mapPut r q)
theorem RepT.mapPut {k : List Key} {v : V} {d : DV} (r : Rep K F v d) : ∀ {kvs : List (List Key × V)} {es : List (List Key × DV)}, RepT K F kvs es → RepT K F (kvs.map fun kv => if kv.1 = k then (kv.1, v) else kv) (es.map fun kv => if kv.1 = k then (kv.1, d) else kv)
  | _, _, .nil => .nil
  | _, _, .cons (k := k') p q => by
    rw [List.map_cons, List.map_cons]
    by_cases e : k' = k
    · simp only [e, if_true]; exact .cons r (RepT.mapPut r q)
    · simp only [e, if_false]; exact .cons p (RepT.mapPut r q)
theorem RepK.put {k : Key} {v : V} {d : DV} {kvs : List (Key × V)} {es : List (Key × DV)} (q : RepK K F kvs es) (r : Rep K F v d) : RepK K F (putK kvs k v) (dput es k d) := by
  unfold putK dput
  rw [q.any k]
  split
  · exact q.mapPut r
  · exact q.append (.cons r .nil)
theorem RepT.put {k : List Key} {v : V} {d : DV} {kvs : List (List Key × V)} {es : List (List Key × DV)} (q : RepT K F kvs es) (r : Rep K F v d) : RepT K F (putK kvs k v) (dput es k d) := by
  unfold putK dput
  rw [q.any k]
  split
  · exact q.mapPut r
  · exact q.append (.cons r .nil)
theorem RepK.len : ∀ {kvs : List (Key × V)} {es : List (Key × DV)}, RepK K F kvs es → kvs.length = es.length
  | _, _, .nil => rfl
  | _, _, .cons _ q => by simp [RepK.len q]
theorem RepT.len : ∀ {kvs : List (List Key × V)} {es : List (List Key × DV)}, RepT K F kvs es → kvs.length = es.length
  | _, _, .nil => rfl
  | _, _, .cons _ q => by simp [RepT.len q]
theorem RepK.merge : ∀ {more : List (Key × V)} {em : List (Key × DV)} {kvs : List (Key × V)} {es : List (Key × DV)}, RepK K F more em → RepK K F kvs es → RepK K F (mergeK kvs more) (dmerge es em)
  | _, _, _, _, .nil, q => q
  | _, _, kvs, es, .cons (k := k) (v := v) (d := d) (vs := vs) (ds := ds) r p, q => by
    show RepK K F (mergeK (putK kvs k v) vs) (dmerge (dput es k d) ds)
    exact RepK.merge p (q.put r)
end
def dkOf (O : Own) : DV → Option (List (Key × DV))
  | .dK es => some es
  | .ref a => match O a with
    | some (.dK es) => some es
    | _ => none
  | _ => none
def dtOf (O : Own) : DV → Option (List (List Key × DV))
  | .dT es => some es
  | .ref a => match O a with
    | some (.dT es) => some es
    | _ => none
  | _ => none
theorem dkOf_at {K : KG} {F H : Hp} {O : Own} {v : V} {d : DV} {es : List (Key × DV)} (rs : RS K F O H) (r : Rep K F v d) (h : dkOf O d = some es) : ∃ a kvs, v = .ref a ∧ Rd H a (.dK kvs) ∧ RepK K F kvs es := by
  cases r with
  | dK e r =>
    cases h
    rcases rs.fro _ _ e with e | ⟨_, ob, e⟩
    · exact ⟨_, _, rfl, .inl e, r⟩
    · exact ⟨_, _, rfl, .inr ⟨ob, e⟩, r⟩
  | ref a =>
    simp only [dkOf] at h
    split at h
    · rename_i ys e
      cases h
      obtain ⟨_, vs, h1, h2⟩ := rs.own a _ e
      exact ⟨a, vs, rfl, .inl h1, h2⟩
    · cases h
  | _ => cases h
theorem dtOf_at {K : KG} {F H : Hp} {O : Own} {v : V} {d : DV} {es : List (List Key × DV)} (rs : RS K F O H) (r : Rep K F v d) (h : dtOf O d = some es) : ∃ a kvs, v = .ref a ∧ Rd H a (.dT kvs) ∧ RepT K F kvs es := by
  cases r with
  | dT e r =>
    cases h
    rcases rs.fro _ _ e with e | ⟨_, ob, e⟩
    · exact ⟨_, _, rfl, .inl e, r⟩
    · exact ⟨_, _, rfl, .inr ⟨ob, e⟩, r⟩
  | ref a =>
    simp only [dtOf] at h
    split at h
    · rename_i ys e
      cases h
      obtain ⟨_, vs, h1, h2⟩ := rs.own a _ e
      exact ⟨a, vs, rfl, .inl h1, h2⟩
    · cases h
  | _ => cases h
def keyD : DV → Option Key
  | .str x => some (.inr x)
  | .int i => some (.inl i)
  | _ => none
def keysD : List DV → Option (List Key)
  | [] => some []
  | d :: r => match keyD d, keysD r with
    | some k, some ks => some (k :: ks)
    | _, _ => none
def keyTD : DV → Option (List Key)
  | .tup ds => keysD ds
  | _ => none
theorem keyD_at {K : KG} {F : Hp} {v : V} {d : DV} {k : Key} (r : Rep K F v d) (h : keyD d = some k) : v = kV k := by
  cases r <;> cases h <;> rfl
theorem keysD_at {K : KG} {F : Hp} : ∀ {vs : List V} {ds : List DV} {ks : List Key}, Reps K F vs ds → keysD ds = some ks → vs = ks.map kV
  | _, _, _, .nil, h => by cases h; rfl
  | _, _, _, .cons r q, h => by
    unfold keysD at h
    split at h
    · rename_i k ks e1 e2; cases h
      rw [keyD_at r e1, keysD_at q e2]; rfl
    · cases h
theorem keyTD_at {K : KG} {F H : Hp} {O : Own} {v : V} {d : DV} {ks : List Key} (rs : RS K F O H) (r : Rep K F v d) (h : keyTD d = some ks) : ∃ b, v = .ref b ∧ H b = some (.tup (ks.map kV)) := by
  cases r with
  | tup e r =>
    have := keysD_at r h
    subst this
    exact ⟨_, rfl, rs.tup e⟩
  | _ => cases h
def dfind (O : Own) (x y : DV) : Option (Option DV) :=
  match keyD y with
  | some k => match dkOf O x with
    | some es => some (dget es k)
    | none => none
  | none => match keyTD y with
    | some k => match dtOf O x with
      | some es => some (dget es k)
      | none => none
    | none => none
theorem dfind_at {K : KG} {F H : Hp} {O : Own} {u v : V} {x y : DV} {r : Option DV} (rs : RS K F O H) (rx : Rep K F u x) (ry : Rep K F v y) (h : dfind O x y = some r) :
    ∃ a o, u = .ref a ∧ DGet H a v o ∧ (∀ d, r = some d → ∃ w, o = some w ∧ Rep K F w d) ∧ (r = none → o = none) := by
  unfold dfind at h
  split at h
  · rename_i k e
    split at h
    · rename_i es e2
      cases h
      obtain ⟨a, kvs, rfl, h1, r1⟩ := dkOf_at rs rx e2
      have := keyD_at ry e
      subst this
      exact ⟨a, valV kvs k, rfl, .inl ⟨kvs, k, h1, rfl, rfl⟩, (r1.get (k := k)).1, (r1.get (k := k)).2⟩
    · cases h
  · split at h
    · rename_i k e
      split at h
      · rename_i es e2
        cases h
        obtain ⟨a, kvs, rfl, h1, r1⟩ := dtOf_at rs rx e2
        obtain ⟨b, rfl, h2⟩ := keyTD_at rs ry e
        exact ⟨a, valV kvs k, rfl, .inr ⟨kvs, k, b, h1, rfl, h2, rfl⟩, (r1.get (k := k)).1, (r1.get (k := k)).2⟩
      · cases h
    · cases h
def onK : Option Cell → (List (Key × DV) → Prop) → Prop
  | some (.dK es), K => K es
  | _, _ => False
def onT : Option Cell → (List (List Key × DV) → Prop) → Prop
  | some (.dT es), K => K es
  | _, _ => False
def dkQ (O : Own) : DV → (List (Key × DV) → Prop) → Prop
  | .dK es, K => K es
  | .ref a, K => onK (O a) K
  | _, _ => False
def dtQ (O : Own) : DV → (List (List Key × DV) → Prop) → Prop
  | .dT es, K => K es
  | .ref a, K => onT (O a) K
  | _, _ => False
theorem onK_ex {c : Option Cell} {K : List (Key × DV) → Prop} (h : onK c K) : ∃ es, c = some (.dK es) ∧ K es := by
  unfold onK at h
  split at h
  · exact ⟨_, rfl, h⟩
  · exact h.elim
theorem onT_ex {c : Option Cell} {K : List (List Key × DV) → Prop} (h : onT c K) : ∃ es, c = some (.dT es) ∧ K es := by
  unfold onT at h
  split at h
  · exact ⟨_, rfl, h⟩
  · exact h.elim
theorem dkQ_ex {O : Own} {d : DV} {K : List (Key × DV) → Prop} (h : dkQ O d K) : ∃ es, dkOf O d = some es ∧ K es := by
  unfold dkQ at h
  split at h
  · exact ⟨_, rfl, h⟩
  · rename_i a
    obtain ⟨xs, e, h⟩ := onK_ex h
    exact ⟨xs, by simp [dkOf, e], h⟩
  · exact h.elim
theorem dtQ_ex {O : Own} {d : DV} {K : List (List Key × DV) → Prop} (h : dtQ O d K) : ∃ es, dtOf O d = some es ∧ K es := by
  unfold dtQ at h
  split at h
  · exact ⟨_, rfl, h⟩
  · rename_i a
    obtain ⟨xs, e, h⟩ := onT_ex h
    exact ⟨xs, by simp [dtOf, e], h⟩
  · exact h.elim
def findQ (O : Own) (x : DV) : DV → (Option DV → Prop) → Prop
  | .str z, K => dkQ O x fun es => K (dget es (.inr z))
  | .int i, K => dkQ O x fun es => K (dget es (.inl i))
  | .tup ds, K => onSome (keysD ds) fun k => dtQ O x fun es => K (dget es k)
  | _, _ => False
theorem findQ_ex {O : Own} {x y : DV} {K : Option DV → Prop} (h : findQ O x y K) : ∃ r, dfind O x y = some r ∧ K r := by
  unfold findQ at h
  split at h
  · obtain ⟨es, e, h⟩ := dkQ_ex h
    exact ⟨_, by simp [dfind, keyD, e], h⟩
  · obtain ⟨es, e, h⟩ := dkQ_ex h
    exact ⟨_, by simp [dfind, keyD, e], h⟩
  · obtain ⟨k, e0, h⟩ := onSome_ex h
    obtain ⟨es, e, h⟩ := dtQ_ex h
    exact ⟨_, by simp [dfind, keyD, keyTD, e, e0], h⟩
  · exact h.elim
def dDix : DR2 := fun x y O Q => findQ O x y fun r => onSome r fun d => Q d O
def dDin (neg : Bool) : DR2 := fun y x O Q => findQ O x y fun r => Q (.bl (if neg then !r.isSome else r.isSome)) O
section
variable {X : Cx} {a b : Expr} {ta tb : DTE} {pos : Pos}
theorem de_dix (hu : X.A.units + 1 < cLine) (ha : DE XW X a ta) (hb : DE XW X b tb) (hs : NoSl b := by exact fun _ _ => rfl) : DE XW X (.Subscript a b pos) (dOp dDix ta tb) := by
  refine ⟨fun g0 hg0 => PE_imp (pe_dget hu (ha.pe g0 hg0) (hb.pe g0 hg0) hs) ?_⟩
  rintro σ H VQ ⟨F, O, S, Q, rs, sr, h, fin⟩
  refine ⟨F, O, S, _, rs, sr, h, fun dx O1 h1 x H1 F1 s1 rx => ⟨F1, O1, S, _, s1.rs, sr.mono s1.sub, h1, fun dy O2 h2 y H2 F2 s2 ry => ?_⟩⟩
  obtain ⟨r, e, h2⟩ := findQ_ex h2
  obtain ⟨d, rfl, h2⟩ := onSome_ex h2
  obtain ⟨p, o, rfl, h3, h4, _⟩ := dfind_at s2.rs (rx.mono s2.sub) ry e
  obtain ⟨w', rfl, r⟩ := h4 d rfl
  exact ⟨p, w', rfl, h3, fin _ _ h2 _ H2 F2 (s1.trans s2) r⟩
theorem od_din_ {X : Cx} {f : Value → Value → Sem Value} (neg : Bool) (h : OpR X f (fun y x H Q => ∃ a o, x = .ref a ∧ DGet H a y o ∧ Q (.bl (if neg then !o.isSome else o.isSome)) H)) : OpD X f (dDin neg) := by
  refine ⟨fun g0 => OpR_imp h ?_⟩
  rintro y x H VQ ⟨F, O, dy, dx, Q, rs, ry, rx, h, fin⟩
  obtain ⟨r, e, h⟩ := findQ_ex h
  obtain ⟨p, o, rfl, h3, h4, h5⟩ := dfind_at rs rx ry e
  have : o.isSome = r.isSome := by
    cases r with
    | none => rw [h5 rfl]; rfl
    | some d => obtain ⟨w', rfl, _⟩ := h4 d rfl; rfl
  exact ⟨p, o, rfl, h3, by rw [this]; exact fin _ _ h _ _ F (.refl rs) (.bl _)⟩
theorem od_din (hu : X.A.units + 1 < cLine) : OpD X (compareOp .In) (dDin false) := od_din_ false fun pins s σ H y x v u Q I ry rx ⟨a, o, e, g, q⟩ => by
  subst e
  obtain rfl : u = Value.ref a := rx
  exact d_in hu I g ry fun s3 I3 => ⟨.bl o.isSome, H, I3, rfl, by simpa using q⟩
theorem od_dnin (hu : X.A.units + 1 < cLine) : OpD X (compareOp .NotIn) (dDin true) := od_din_ true fun pins s σ H y x v u Q I ry rx ⟨a, o, e, g, q⟩ => by
  subst e
  obtain rfl : u = Value.ref a := rx
  exact d_notIn hu I g ry fun s3 I3 => ⟨.bl (!o.isSome), H, I3, rfl, by simpa using q⟩
def dSetD : DV → DV → DV → Own → (Own → Prop) → Prop
  | .ref a, .str z, v, O, Q => onK (O a) fun es => es.length < 16000000 ∧ Q (oset O a (.dK (dput es (.inr z) v)))
  | .ref a, .int z, v, O, Q => onK (O a) fun es => es.length < 16000000 ∧ Q (oset O a (.dK (dput es (.inl z) v)))
  | .ref a, .tup ds, v, O, Q => onT (O a) fun es => onSome (keysD ds) fun k => es.length < 16000000 ∧ Q (oset O a (.dT (dput es k v)))
  | _, _, _, _, _ => False
theorem psd_dict (hu : X.A.units + 1 < cLine) : PSetD X dSetD := by
  refine ⟨fun g0 pins s σ H o i v ov iv u VQ I ro ri rv ⟨F, O, d, e, f, Q, rs, rdo, rdi, rdv, h, fin⟩ => ?_⟩
  have key : ∀ (a : Addr) (H' : Hp) (F' : Hp) (O' : Own), o = .ref a → DPut H a i v H' → VQ H' → wpAny (model X.prog X.w) X.A (setItem ov iv u) (fun _ s' => ∃ H', Inv X pins σ H' s' ∧ VQ H') X.xe s := by
    intro a H' F' O' ea g q
    subst ea
    obtain rfl : ov = Value.ref a := ro
    exact d_setItem hu I g ri rv fun s' I' => ⟨H', I', q⟩
  have fk : ∀ {a : Addr} {k : Key}, d = .ref a → keyD e = some k → (onK (O a) fun es => es.length < 16000000 ∧ Q (oset O a (.dK (dput es k f)))) → wpAny (model X.prog X.w) X.A (setItem ov iv u) (fun _ s' => ∃ H', Inv X pins σ H' s' ∧ VQ H') X.xe s := by
    rintro a k rfl e2 h
    cases rdo
    obtain ⟨es, e1, h⟩ := onK_ex h
    obtain ⟨_, kvs, h1, r1⟩ := rs.own a _ e1
    have := keyD_at rdi e2
    subst this
    exact key a _ F O rfl (.k h1 (by rw [r1.len]; exact lc_line h.1)) (fin _ h.2 _ F (rs.write e1 ⟨_, upd_same, r1.put rdv⟩))
  unfold dSetD at h
  split at h
  · exact fk rfl rfl h
  · exact fk rfl rfl h
  · rename_i a ds
    cases rdo
    obtain ⟨es, e1, h⟩ := onT_ex h
    obtain ⟨k, e2, h⟩ := onSome_ex h
    obtain ⟨_, kvs, h1, r1⟩ := rs.own a _ e1
    obtain ⟨b, rfl, h2⟩ := keyTD_at rs rdi e2
    exact key a _ F O rfl (.t h1 h2 (by rw [r1.len]; exact lc_line h.1)) (fin _ h.2 _ F (rs.write e1 ⟨_, upd_same, r1.put rdv⟩))
  · exact h.elim
end
def dPairs : List (DTE × DTE) → DSt → Own → (List (DV × DV) → Own → Prop) → Prop
  | [], _, O, Q => Q [] O
  | (tk, tv) :: r, S, O, Q => tk S O fun x O1 => tv S O1 fun y O2 => dPairs r S O2 fun ps O3 => Q ((x, y) :: ps) O3
def RepVV (K : KG) (F : Hp) : List (V × V) → List (DV × DV) → Prop := Paired fun p q => Rep K F p.1 q.1 ∧ Rep K F p.2 q.2
theorem RepVV.mono {K : KG} {F F' : Hp} (s : Sub F F') : ∀ {x : List (V × V)} {y : List (DV × DV)}, RepVV K F x y → RepVV K F' x y
  | _, _, .nil => .nil
  | _, _, .cons h r => .cons ⟨h.1.mono s, h.2.mono s⟩ (RepVV.mono s r)
theorem liftPairs {K : KG} : ∀ {trs : List (DTE × DTE)} {σ : L2.St} {H F : Hp} {O : Own} {S : DSt} {Q : List (DV × DV) → Own → Prop} {VQ : List (V × V) → Hp → Prop}, RS K F O H → SR K F σ S → dPairs trs S O Q →
    (∀ ps O', Q ps O' → ∀ vs H' F', Stp K F O H F' O' H' → RepVV K F' vs ps → VQ vs H') → tPairs (trs.map fun p => (liftE K p.1, liftE K p.2)) σ H VQ
  | [], σ, H, F, O, S, Q, VQ, rs, sr, h, fin => fin _ _ h _ H F (.refl rs) .nil
  | (tk, tv) :: r, σ, H, F, O, S, Q, VQ, rs, sr, h, fin =>
    ⟨F, O, S, _, rs, sr, h, fun x O1 h1 u H1 F1 s1 r1 => ⟨F1, O1, S, _, s1.rs, sr.mono s1.sub, h1, fun y O2 h2 w H2 F2 s2 r2 =>
      liftPairs s2.rs (sr.mono (s1.trans s2).sub) h2 fun ps O3 h3 vs H3 F3 s3 r3 => fin _ _ h3 _ H3 F3 (s1.trans (s2.trans s3)) (.cons ⟨r1.mono (s2.trans s3).sub, r2.mono s3.sub⟩ r3)⟩⟩
structure DPPs (XW : DXK) (X : Cx) (pos : Pos) (keys : List (Option Expr)) (values : List Expr) (trs : List (DTE × DTE)) : Prop where
  pps : ∀ g, Good XW X g → PPs X pos keys values (trs.map fun p => (liftE (kg X g) p.1, liftE (kg X g) p.2))
def kvsOf : List (DV × DV) → Option (List (Key × DV))
  | [] => some []
  | (k, v) :: r => match keyD k, kvsOf r with
    | some k', some r' => some ((k', v) :: r')
    | _, _ => none
theorem kvsOf_at {K : KG} {F : Hp} : ∀ {vs : List (V × V)} {ps : List (DV × DV)} {es : List (Key × DV)}, RepVV K F vs ps → kvsOf ps = some es → ∃ kvs, vs = kvs.map (fun kv => (kV kv.1, kv.2)) ∧ RepK K F kvs es
  | _, _, _, .nil, h => by cases h; exact ⟨[], rfl, .nil⟩
  | _, _, _, .cons (a := (p1, p2)) (b := (a, b)) r q, h => by
    unfold kvsOf at h
    split at h
    · rename_i k' r' e1 e2
      cases h
      obtain ⟨kvs, h1, h2⟩ := kvsOf_at q e2
      have := keyD_at r.1 e1
      subst h1
      have this : p1 = kV k' := this
      subst this
      exact ⟨(k', p2) :: kvs, rfl, .cons r.2 h2⟩
    · cases h
def dDisp (trs : List (DTE × DTE)) (S : DSt) (O : Own) (Q : DVK) : Prop := dPairs trs S O fun ps O1 => onSome (kvsOf ps) fun es => es.length ≤ 15 ∧ ∀ p, O1 p = none → Q (.ref p) (oset O1 p (.dK (dmerge [] es)))
section
variable {X : Cx} {pos : Pos}
theorem dpp_nil : DPPs XW X pos [] [] [] := ⟨fun g0 hg0 => pps_nil⟩
theorem dpp_cons {k v : Expr} {ks : List (Option Expr)} {vs : List Expr} {tk tv : DTE} {trs : List (DTE × DTE)} (hk : DE XW X k tk) (hv : DE XW X v tv) (hr : DPPs XW X pos ks vs trs) : DPPs XW X pos (some k :: ks) (v :: vs) ((tk, tv) :: trs) := ⟨fun g0 hg0 => pps_cons (hk.pe g0 hg0) (hv.pe g0 hg0) (hr.pps g0 hg0)⟩
def dDNew (c : Cell) (u0_ : DSt) (O : Own) (Q : DVK) : Prop := ∀ p, O p = none → Q (.ref p) (oset O p c)
theorem de_dnewK : DE XW X (.Dict [] [] pos) (dDNew (.dK [])) := by
  refine ⟨fun g0 hg0 => PE_imp pe_dnewK ?_⟩
  rintro σ H VQ ⟨F, O, S, Q, rs, sr, h, fin⟩ p hp
  exact fin _ _ (h p (rs.free hp).2) _ _ F (rs.newO hp ⟨_, upd_same, .nil⟩) (.ref p)
end
def rUpd : V → List V → Hp → VK → Prop := fun x xs H Q => ∃ a b kvs more, x = .ref a ∧ xs = [.ref b] ∧ a ≠ b ∧ H a = some (.dK kvs) ∧ Rd H b (.dK more) ∧ kvs.length + more.length ≤ sizeLine ∧ Q .non (upd H a (.dK (mergeK kvs more)))
theorem mt_update {X : Cx} : MtR X "dict.update" rUpd := by
  intro pins s σ H x xs v us Q I rx rxs h
  obtain ⟨a, b, kvs, more, rfl, rfl, hab, ha, hb, hz, q⟩ := h
  obtain rfl : v = Value.ref a := rx
  obtain ⟨u, rfl, ru⟩ := rxs.one
  obtain rfl : u = Value.ref b := ru
  obtain ⟨z, hd, vs, rel, dd⟩ := dk_of I.hok ha
  obtain ⟨z2, hd2, vs2, rel2, dd2⟩ := dk_rd I.hok hb
  refine call_meetsIn PySem.F.slot_dict_update dd.typeIs PySem.F.entry_dict_update (PySem.F.args_dict_update_2 _ _) (meets_dict_update (mixKind X.prog X.w) a b hab hd2) ⟨vs, vs2, dd, dd2, by rw [← rel.length, ← rel2.length]; exact hz, fun h' dd' _ hs => ?_⟩
  have he : ∃ q, h'.get? a = some q := let ⟨q, _, _, hq, _⟩ := dd'; ⟨q, hq⟩
  have hz' : (mergeK kvs more).length ≤ sizeLine := Nat.le_trans (length_mergeK more kvs) hz
  exact ⟨.non, _, d_write (t' := s.toks) I (by rw [ha]; exact True.intro) hs he (dk_new hz' hd (KV.merge rel2 rel) dd'), rfl, q⟩
def apart (a : Addr) : DV → Prop
  | .ref b => a ≠ b
  | _ => True
def dUpd : DV → List DV → Own → DVK → Prop
  | .ref a, [d], O, Q => onK (O a) fun es => dkQ O d fun em => apart a d ∧ es.length + em.length ≤ 1000000 ∧ Q .non (oset O a (.dK (dmerge es em)))
  | _, _, _, _ => False
theorem md_update {X : Cx} (_ : X.A.units + 1 < cLine) : MtD X "dict.update" dUpd := by
  refine ⟨fun g0 => MtR_imp mt_update ?_⟩
  rintro x xs H VQ ⟨F, O, d, ds, Q, rs, rx, rr, h, fin⟩
  unfold dUpd at h
  split at h
  · rename_i a y
    cases rx
    obtain ⟨v, rfl, ry⟩ := rr.one
    obtain ⟨es, e1, h⟩ := onK_ex h
    obtain ⟨em, e2, h⟩ := dkQ_ex h
    · obtain ⟨hf, kvs, h1, r1⟩ := rs.own a _ e1
      obtain ⟨b, more, rfl, h2, r2⟩ := dkOf_at rs ry e2
      refine ⟨a, b, kvs, more, rfl, rfl, ?_, h1, h2, ?_, fin _ _ h.2.2 _ _ F (rs.write e1 ⟨_, upd_same, RepK.merge r2 r1⟩) .non⟩
      · cases ry with
        | ref b => exact h.1
        | dK e _ => intro z; subst z; rw [hf] at e; cases e
        | _ => cases e2
      · rw [r1.len, r2.len]
        have := sizeLine_eq
        have := h.2.1
        omega
  · exact h.elim
def repS (x : Str) (n : Int) : Str := ⟨(List.replicate n.toNat (tl x)).flatten.toArray⟩
def dMulS : DV → DV → Own → DVK → Prop
  | .str z, .int n, O, Q => (n < 100000 ∧ -100000 < n ∧ z.length < 100) ∧ Q (.str (repS z n)) O
  | _, _, _, _ => False
end DL
set_option Elab.async false
set_option linter.all false
set_option maxRecDepth 100000
namespace DL
open PySem PySem.Spec PyProof.Rows L2 TL
variable {XW : DXK}
def lcG (b : DV → DSt → Option DSt) (tt : DTT) (te : DTE) (S : DSt) (R : List DV → Own → Prop) : List DV → List DV → Own → Prop
  | [], acc, O => R acc O
  | x :: r, acc, O => onSome (b x S) fun S2 => tt S2 O fun c O2 => if c = true then te S2 O2 fun y O3 => acc.length < 16000000 ∧ lcG b tt te S R r (acc ++ [y]) O3 else lcG b tt te S R r acc O2
def lc2W (ow : Bool) (b : DV → DSt → Option DSt) (tt : DTT) (di1 : DTI) (b1 : DV → DSt → Option DSt) (tt1 : DTT) (te : DTE) (vs1 : List Nat) (S : DSt) (Q : DVK) : List DV → List DV → Own → Prop
  | [], acc, O => endLc ow Q acc O
  | x :: r, acc, O => onSome (b x S) fun S2 => tt S2 O fun c O2 => if c = true then di1 S2 O2 fun ds1 O3 => lcG b1 tt1 te (dwipe S2 vs1) (lc2W ow b tt di1 b1 tt1 te vs1 S Q r) ds1 acc O3 else lc2W ow b tt di1 b1 tt1 te vs1 S Q r acc O2
def dLc2 (ow : Bool) (di : DTI) (b : DV → DSt → Option DSt) (tt : DTT) (di1 : DTI) (b1 : DV → DSt → Option DSt) (tt1 : DTT) (te : DTE) (vs vs1 : List Nat) (S : DSt) (O : Own) (Q : DVK) : Prop := di S O fun ds O1 => lc2W ow b tt di1 b1 tt1 te vs1 (dwipe S vs) Q ds [] O1
end DL
namespace DL
open PySem PySem.Spec PyProof.Rows L2 TL
variable {XW : DXK}
def dInL (a : Addr) (xs : List Str) : DV → DV → Own → DVK → Prop
  | .str z, .ref b, O, Q => b = a ∧ Q (.bl (decide (z ∈ xs))) O
  | _, _, _, _ => False
end DL
set_option Elab.async false
set_option linter.all false
set_option maxRecDepth 100000
namespace DL
open PySem PySem.Spec PyProof.Rows L2 TL
variable {XW : DXK}
abbrev ofL (l : List Nat) : Str := ⟨l.toArray⟩
theorem tl_ofL (l : List Nat) : tl (ofL l) = l := rfl
theorem ofL_tl (x : Str) : ofL (tl x) = x := mk_tl x
theorem line_of {n : Nat} (h : n ≤ 16000000) : n ≤ sizeLine := by
  have := sizeLine_eq
  omega
theorem atI_pos {α : Type} {l : List α} {i : Int} (h : 0 ≤ i) : atI l i = l[i.toNat]? := by
  unfold atI ixN
  rw [if_pos h]
  split
  · rfl
  · rename_i q
    rw [List.getElem?_eq_none (by omega)]; rfl
theorem atI_nat_ {α : Type} {l : List α} (i : Nat) : atI l (i : Int) = l[i]? := by
  rw [atI_pos (Int.natCast_nonneg i)]; rfl
theorem ite_f {A B : Prop} {c : Prop} [Decidable c] (h : ¬ c) (x : B) : if c then A else B := by rw [if_neg h]; exact x
theorem ite_c {A B : Prop} {c : Prop} [Decidable c] (h : c → A) (h2 : ¬ c → B) : if c then A else B := by
  by_cases q : c
  · rw [if_pos q]; exact h q
  · rw [if_neg q]; exact h2 q
end DL
namespace DL
open PySem PySem.Spec PyProof.Rows L2 TL
variable {XW : DXK}
theorem tl_one (c : Nat) : tl (⟨#[c]⟩ : Str) = [c] := rfl
end DL
namespace DL
open PySem PySem.Spec PyProof.Rows L2 TL
variable {XW : DXK}
section
variable {α : Type} {l : List α} {n : Nat}
theorem atI_0 : atI l 0 = l[0]? := atI_nat_ 0
theorem atI_1 : atI l 1 = l[1]? := atI_nat_ 1
theorem atI_2 : atI l 2 = l[2]? := atI_nat_ 2
theorem atI_3 : atI l 3 = l[3]? := atI_nat_ 3
theorem atI_4 : atI l 4 = l[4]? := atI_nat_ 4
theorem atI_5 : atI l 5 = l[5]? := atI_nat_ 5
theorem atI_6 : atI l 6 = l[6]? := atI_nat_ 6
theorem atI_7 : atI l 7 = l[7]? := atI_nat_ 7
theorem ixN_nat {k : Nat} (h : k < n) : ixN n (k : Int) = some k := by
  unfold ixN
  rw [if_pos (by omega), if_pos (by omega)]; rfl
theorem ixN_0 : ixN (n + 1) 0 = some 0 := ixN_nat (k := 0) (by omega)
theorem ixN_1 : ixN (n + 2) 1 = some 1 := ixN_nat (k := 1) (by omega)
theorem ixN_2 : ixN (n + 3) 2 = some 2 := ixN_nat (k := 2) (by omega)
theorem ixN_3 : ixN (n + 4) 3 = some 3 := ixN_nat (k := 3) (by omega)
end
end DL
namespace DL
open PySem PySem.Spec PyProof.Rows L2 TL
variable {XW : DXK}
theorem ofs_eq {a b : String} : (Str.ofString a = Str.ofString b) = (a = b) := by
  refine propext ⟨fun h => ?_, fun h => by rw [h]⟩
  rw [Str.ofString_eq_toList, Str.ofString_eq_toList] at h
  have h1 : a.toList.map Char.toNat = b.toList.map Char.toNat := by
    have := congrArg (fun s : Str => s.cps.toList) h
    simpa using this
  have h2 : ∀ l m : List Char, l.map Char.toNat = m.map Char.toNat → l = m := by
    intro l
    induction l with
    | nil => intro m h; cases m with
      | nil => rfl
      | cons c m => cases h
    | cons c l ih => intro m h; cases m with
      | nil => cases h
      | cons d m =>
        simp only [List.map_cons, List.cons.injEq] at h
        rw [Char.toNat_inj.mp h.1, ih m h.2]
  exact String.toList_inj.mp (h2 _ _ h1)
theorem inD_cons {x a : Str} {xs : List DV} : inD (.str x) (.str a :: xs) = (decide (a = x) || inD (.str x) xs) := by
  show (a == x || _) = _
  by_cases e : a = x
  · subst e; simp [inD]
  · rw [decide_eq_false e, beq_eq_false_iff_ne.mpr e]; rfl
theorem inD_nil {x : DV} : inD x [] = false := rfl
theorem joinL_len2 {sep : List Nat} : ∀ (ps : List (List Nat)), (TL.joinL sep ps).length ≤ (ps.map List.length).sum + ps.length * sep.length
  | [] => by simp [TL.joinL]
  | [p] => by simp [TL.joinL]
  | p :: q :: r => by
    have := joinL_len2 (sep := sep) (q :: r)
    simp only [TL.joinL, List.map_cons, List.sum_cons, List.length_cons, List.length_append] at this ⊢
    simp only [Nat.add_mul, Nat.one_mul] at this ⊢
    omega
theorem app_len (x y : Str) : (tl (x ++ y)).length = (tl x).length + (tl y).length := by rw [tl_append, List.length_append]
end DL
set_option Elab.async false
set_option linter.all false
set_option maxRecDepth 100000
namespace DL
open PySem PySem.Spec PyProof.Rows L2 TL
variable {XW : DXK}
section
variable {X : Cx}
def dTupOf : List DV → Own → DVK → Prop
  | [.lst xs], O, Q => Q (.tup xs) O
  | [.tup xs], O, Q => Q (.tup xs) O
  | [.ref a], O, Q => onL (O a) fun xs => Q (.tup xs) O
  | _, _, _ => False
def dListOf : List DV → Own → DVK → Prop
  | [d], O, Q => seqQ O d fun xs => ∀ p, O p = none → Q (.ref p) (oset O p (.lst xs))
  | _, _, _ => False
theorem cd_list : CallD X (.type "list") dListOf := by
  refine ⟨fun g0 => CallR_imp call_list_of ?_⟩
  rintro vs H VQ ⟨F, O, ds, Q, rs, rr, h, fin⟩
  unfold dListOf at h
  split at h
  · obtain ⟨v, rfl, r⟩ := rr.one
    obtain ⟨xs, e, h⟩ := seqQ_ex h
    obtain ⟨a, ws, rfl, h1, r1⟩ := seqOf_at rs r e
    refine ⟨_, _, rfl, h1, fun p hp => ?_⟩
    exact fin _ _ (h p (rs.free hp).2) _ _ F (rs.newO hp ⟨_, upd_same, r1⟩) (.ref p)
  · exact h.elim
def dMin2 : List DV → Own → DVK → Prop
  | [.int i, .int j], O, Q => Q (.int (if j < i then j else i)) O
  | _, _, _ => False
def dExt : DV → List DV → Own → DVK → Prop
  | .ref a, [d], O, Q => onL (O a) fun xs => lstQ O d fun zs => xs.length + zs.length ≤ sizeLine ∧ Q .non (oset O a (.lst (xs ++ zs)))
  | _, _, _, _ => False
def dMulL : DV → DV → Own → DVK → Prop
  | d, .int k, O, Q => lstQ O d fun xs => -(2 ^ 63) ≤ k ∧ k < 2 ^ 63 ∧ xs.length * k.toNat ≤ sizeLine ∧ Q (.lst (List.replicate k.toNat xs).flatten) O
  | _, _, _, _ => False
theorem Reps.rep {K : KG} {F : Hp} {vs : List V} {ds : List DV} (r : Reps K F vs ds) : ∀ n : Nat, Reps K F (List.replicate n vs).flatten (List.replicate n ds).flatten
  | 0 => .nil
  | n + 1 => by rw [List.replicate_succ, List.replicate_succ, List.flatten_cons, List.flatten_cons]; exact r.append (Reps.rep r n)
theorem od_mulL : OpD X (binaryOp .Mult) dMulL := by
  refine ⟨fun g0 => OpR_imp op_rep ?_⟩
  rintro x y H VQ ⟨F, O, dx, dy, Q, rs, rx, ry, h, fin⟩
  unfold dMulL at h
  split at h
  · cases ry
    obtain ⟨xs, e, h⟩ := lstQ_ex h
    obtain ⟨a, vs, rfl, h1, r1⟩ := lstOf_at rs rx e
    refine ⟨a, _, vs, rfl, rfl, h1, h.1, h.2.1, by rw [r1.len]; exact h.2.2.1, fun p hp => ?_⟩
    exact fin _ _ h.2.2.2 _ _ _ (rs.new hp _) (.lst upd_same ((r1.rep _).mono (rs.new hp _).sub))
  · exact h.elim
end
end DL
namespace DL
open PySem PySem.Spec PyProof.Rows L2 TL
variable {XW : DXK}
section
variable {X : Cx} {o e f : Expr} {apos cpos : Pos} {td ty tx : DTE}
def dIsD (O : Own) : DV → Prop
  | .dK _ => True
  | .dT _ => True
  | .ref a => match O a with
    | some (.dK _) => True
    | some (.dT _) => True
    | _ => False
  | _ => False
theorem isD_of {K : KG} {F H : Hp} {O : Own} {v : V} {d : DV} (rs : RS K F O H) (r : Rep K F v d) (h : dIsD O d) : ∃ a, v = .ref a ∧ IsD H a := by
  have lk : ∀ {a : Addr} {o : HO}, F a = some o → Lk o → Rd H a o := fun e l => by
    rcases rs.fro _ _ e with q | ⟨_, ob, q⟩
    · exact .inl q
    · exact .inr ⟨ob, q⟩
  cases r with
  | dK e r => exact ⟨_, rfl, .inl ⟨_, lk e trivial⟩⟩
  | dT e r => exact ⟨_, rfl, .inr ⟨_, lk e trivial⟩⟩
  | ref a =>
    refine ⟨_, rfl, ?_⟩
    cases e : O a with
    | none => simp [dIsD, e] at h
    | some c =>
      cases c with
      | dK es => obtain ⟨_, kvs, h1, _⟩ := rs.own a _ e; exact .inl ⟨_, .inl h1⟩
      | dT es => obtain ⟨_, kvs, h1, _⟩ := rs.own a _ e; exact .inr ⟨_, .inl h1⟩
      | lst _ => simp [dIsD, e] at h
      | ins _ _ => simp [dIsD, e] at h
      | xd _ => simp [dIsD, e] at h
      | tbl _ => simp [dIsD, e] at h
  | _ => exact h.elim
def dGet1 (td ty : DTE) (S : DSt) (O : Own) (Q : DVK) : Prop := td S O fun x O1 => dIsD O1 x ∧ ty S O1 fun y O2 => findQ O2 x y fun r => Q (r.getD .non) O2
def dGet2 (td ty tx : DTE) (S : DSt) (O : Own) (Q : DVK) : Prop := td S O fun x O1 => dIsD O1 x ∧ ty S O1 fun y O2 => tx S O2 fun z O3 => findQ O3 x y fun r => Q (r.getD z) O3
theorem de_get2 (hu : X.A.units + 1 < cLine) (ho : DE XW X o td) (he : DE XW X e ty) (hf : DE XW X f tx) (m : M2 X o "get" apos e f cpos) : DE XW X (.Call (.Attribute o "get" apos) [e, f] [] cpos) (dGet2 td ty tx) := by
  refine ⟨fun g0 hg0 => PE_imp (pe_dget2 hu (ho.pe g0 hg0) (he.pe g0 hg0) (hf.pe g0 hg0) m) ?_⟩
  rintro σ H VQ ⟨F, O, S, Q, rs, sr, h, fin⟩
  refine ⟨F, O, S, _, rs, sr, h, fun dx O1 h1 x H1 F1 s1 rx => ?_⟩
  obtain ⟨a, rfl, ha⟩ := isD_of s1.rs rx h1.1
  refine ⟨a, rfl, ha, F1, O1, S, _, s1.rs, sr.mono s1.sub, h1.2, fun dy O2 h2 y H2 F2 s2 ry => ⟨F2, O2, S, _, s2.rs, sr.mono (s1.sub.trans s2.sub), h2, fun dz O3 h3 z H3 F3 s3 rz => ?_⟩⟩
  obtain ⟨r, e, h3⟩ := findQ_ex h3
  obtain ⟨p, o, e1, h4, h5, h6⟩ := dfind_at s3.rs (rx.mono (s2.sub.trans s3.sub)) (ry.mono s3.sub) e
  cases e1
  refine ⟨o, h4, ?_⟩
  cases r with
  | none => rw [h6 rfl]; exact fin _ _ h3 _ H3 F3 ((s1.trans s2).trans s3) rz
  | some d => obtain ⟨w', rfl, r⟩ := h5 d rfl; exact fin _ _ h3 _ H3 F3 ((s1.trans s2).trans s3) r
def dSortD : List DV → Own → DVK → Prop
  | [d], O, Q => dkQ O d fun es => ∃ ks : List Str, es.map (·.1) = ks.map Sum.inr ∧ ks.length < 64 ∧ ∀ ys : List Str, ys.Perm ks → Q (.lst (ys.map DV.str)) O
  | _, _, _ => False
theorem RepK.keys {K : KG} {F : Hp} : ∀ {kvs : List (Key × V)} {es : List (Key × DV)}, RepK K F kvs es → kvs.map (·.1) = es.map (·.1)
  | _, _, .nil => rfl
  | _, _, .cons _ r => by rw [List.map_cons, List.map_cons, RepK.keys r]
end
end DL
set_option Elab.async false
set_option linter.all false
set_option maxRecDepth 100000
namespace DL
open PySem PySem.Spec PyProof.Rows L2 TL
variable {XW : DXK}
def klook : List (Str × DV) → Str → Option DV
  | [], _ => none
  | x :: xs, z => if x.1 = z then some x.2 else klook xs z
section
variable {X : Cx} {d : Addr} {es : Array DictEntry} {n : Nat} {xs : List (Str × DV)} {o e f : Expr} {apos cpos : Pos}
def kStr1 (Q : Str → Own → Prop) : DV → Own → Prop
  | .str k, O => Q k O
  | _, _ => False
def dKGet2 (d : Addr) (xs : List (Str × DV)) (td ty tx : DTE) (S : DSt) (O : Own) (Q : DVK) : Prop := td S O fun x O1 => x = .ref d ∧ ty S O1 (kStr1 fun k O2 => tx S O2 fun z O3 => Q ((klook xs k).getD z) O3)
end
end DL
namespace DL
open PySem PySem.Spec PyProof.Rows L2 TL
variable {XW : DXK}
def kPar3 (i j l : Nat) (nx : DSt → Own → Prop) (S : DSt) : List DV → Own → Prop
  | [u, v, w], O1 => nx (((S.set i (some u)).set j (some v)).set l (some w)) O1
  | _, _ => False
theorem kPar3_e1 {i j l : Nat} {nx : DSt → Own → Prop} {S : DSt} {u v w : DV} {O : Own} : kPar3 i j l nx S [u, v, w] O = nx (((S.set i (some u)).set j (some v)).set l (some w)) O := rfl
def dPar3 (i j l : Nat) (ta : DTA) (D : DEnds) (S : DSt) (O : Own) : Prop := ta S O (kPar3 i j l D.nx S)
theorem ds_par3 {X : Cx} (i j l : Nat) {x y z : Str} {a b c : Expr} {ta : DTA} {px py pz pt pos : Pos} {kt k2 pt2} (hN : X.N.Nodup) (ha : DA XW X [a, b, c] ta) (hc : X.calm = true := by rfl) (hi : X.N[i]? = some x := by rfl) (hj : X.N[j]? = some y := by rfl) (hl : X.N[l]? = some z := by rfl)
    (hij : i ≠ j := by decide) (hil : i ≠ l := by decide) (hjl : j ≠ l := by decide)
    (hx : X.env.scope.names.lookup x = some .local := by rfl) (hy : X.env.scope.names.lookup y = some .local := by rfl) (hz : X.env.scope.names.lookup z = some .local := by rfl)
    (hw : swappedStores [.Tuple [.Name x px, .Name y py, .Name z pz] kt pt] (.Tuple [a, b, c] k2 pt2) X.env = pure (some [x, y, z]) := by rfl)
    (hs : swapsWithSole [.Tuple [.Name x px, .Name y py, .Name z pz] kt pt] (.Tuple [a, b, c] k2 pt2) pos.line X.env = pure false := by rfl) :
    DS XW X (.Assign [.Tuple [.Name x px, .Name y py, .Name z pz] kt pt] (.Tuple [a, b, c] k2 pt2) pos) (dPar3 i j l ta) := by
  refine ⟨fun g0 hg0 => PS_imp (ps_par3 hc hN hi hj hl hij hil hjl hx hy hz (ha.pa g0 hg0) hw hs) ?_⟩
  rintro VD σ H ⟨F, O, S, D, rs, sr, h, fin⟩
  refine ⟨F, O, S, _, rs, sr, h, fun ds O1 h1 vs H1 F1 s1 r1 => ?_⟩
  unfold kPar3 at h1
  split at h1
  · cases r1 with
    | cons ra r1 =>
      cases r1 with
      | cons rb r1 =>
        cases r1 with
        | cons rc r1 =>
          cases r1
          exact ⟨_, _, _, rfl, fin.nx _ _ h1 _ H1 F1 s1 ((((sr.mono s1.sub).set i ra).set j rb).set l rc)⟩
  · exact h1.elim
end DL
namespace DL
open PySem PySem.Spec PyProof.Rows L2 TL
variable {XW : DXK}
def dDispF (trs : List (DTE × DTE)) (S : DSt) (O : Own) (Q : DVK) : Prop := dPairs trs S O fun ps O1 => onSome (kvsOf ps) fun es => es.length ≤ 15 ∧ Q (.dK (dmerge [] es)) O1
theorem de_dispF {X : Cx} {pos : Pos} {keys : List (Option Expr)} {values : List Expr} {trs : List (DTE × DTE)} (h : DPPs XW X pos keys values trs) (hall : keys.all (·.isSome) = true := by rfl) (hl : keys.length = values.length := by rfl) (h0 : keys ≠ [] := by exact fun z => nomatch z)
    (h15 : keys.length ≤ 15 := by decide) : DE XW X (.Dict keys values pos) (dDispF trs) := by
  refine ⟨fun g0 hg0 => PE_imp (pe_disp (h.pps g0 hg0) hall hl h0 h15) ?_⟩
  rintro σ H VQ ⟨F, O, S, Q, rs, sr, h, fin⟩ p hp
  obtain ⟨hf, ho⟩ := rs.free hp
  have s0 := (Stp.refl rs).side rs hp hf ho (.dK [])
  refine liftPairs s0.rs sr h fun ps O1 h1 vs H1 F1 s1 r1 => ?_
  obtain ⟨es, e, h1⟩ := onSome_ex h1
  obtain ⟨kvs, h2, r2⟩ := kvsOf_at r1 e
  obtain ⟨k1, k2⟩ := s1.keep p _ upd_same ho
  have k3 := s1.nof p _ upd_same ho hf
  refine ⟨k1, kvs, h2, by rw [r2.len]; exact h1.1, fin _ _ h1.2 _ _ (upd F1 p (.dK _)) (Stp.mk' rs (s1.sub.trans (Sub.upd k3)) ⟨fun b u e => ?_, fun b c e => ?_⟩ (fun b u q1 q2 => ?_) (fun b u q1 q2 q3 => ?_)) (.dK upd_same ((RepK.merge r2 .nil).mono (Sub.upd k3)))⟩
  · by_cases hb : b = p
    · subst hb; rw [upd_same] at e ⊢; exact .inl e
    · rw [upd_ne hb] at e; rw [upd_ne hb]; exact s1.rs.fro b u e
  · have hb : b ≠ p := fun z => by subst z; rw [k2] at e; cases e
    obtain ⟨h3, h4⟩ := s1.rs.own b c e
    exact ⟨by rw [upd_ne hb]; exact h3, h4.mono (Sub.upd k3) (upd_ne hb)⟩
  · have hb : b ≠ p := fun z => by subst z; rw [hp] at q1; cases q1
    obtain ⟨z1, z2⟩ := s1.keep b u (by rw [upd_ne hb]; exact q1) q2
    exact ⟨by rw [upd_ne hb]; exact z1, z2⟩
  · have hb : b ≠ p := fun z => by subst z; rw [hp] at q1; cases q1
    rw [upd_ne hb]
    exact s1.nof b u (by rw [upd_ne hb]; exact q1) q2 q3
end DL
set_option Elab.async false
set_option linter.all false
set_option maxRecDepth 100000
set_option autoImplicit true
namespace DL
open PySem PySem.Spec PyProof.Rows L2 TL
theorem onSome_e1 {α : Type} {x : α} {K : α → Prop} : onSome (some x) K = K x := rfl
theorem onL_e1 {xs : _} {K : _} : onL  (some (.lst xs)) K = (K xs) := by first | rfl | (cases x <;> rfl)
theorem lstQ_e1 (O : Own) {xs : _} {K : _} : lstQ O (.lst xs) K = (K xs) := by first | rfl | (cases x <;> rfl)
theorem lstQ_e2 (O : Own) {a : _} {K : _} : lstQ O (.ref a) K = (onL (O a) K) := by first | rfl | (cases x <;> rfl)
theorem seqQ_e1 (O : Own) {xs : _} {K : _} : seqQ O (.lst xs) K = (K xs) := by first | rfl | (cases x <;> rfl)
theorem seqQ_e2 (O : Own) {xs : _} {K : _} : seqQ O (.slst xs) K = (K xs) := by first | rfl | (cases x <;> rfl)
theorem seqQ_e3 (O : Own) {xs : _} {K : _} : seqQ O (.tup xs) K = (K xs) := by first | rfl | (cases x <;> rfl)
theorem seqQ_e4 (O : Own) {xs : _} {K : _} : seqQ O (.stup xs) K = (K xs) := by first | rfl | (cases x <;> rfl)
theorem seqQ_e5 (O : Own) {a : _} {K : _} : seqQ O (.ref a) K = (onL (O a) K) := by first | rfl | (cases x <;> rfl)
theorem sqlQ_e1 (O : Own) {xs : _} {K : _} : sqlQ O (.lst xs) K = (K xs) := by first | rfl | (cases x <;> rfl)
theorem sqlQ_e2 (O : Own) {xs : _} {K : _} : sqlQ O (.slst xs) K = (K xs) := by first | rfl | (cases x <;> rfl)
theorem sqlQ_e3 (O : Own) {a : _} {K : _} : sqlQ O (.ref a) K = (onL (O a) K) := by first | rfl | (cases x <;> rfl)
theorem onK_e1 {es : _} {K : _} : onK  (some (.dK es)) K = (K es) := by first | rfl | (cases x <;> rfl)
theorem onT_e1 {es : _} {K : _} : onT  (some (.dT es)) K = (K es) := by first | rfl | (cases x <;> rfl)
theorem dkQ_e1 (O : Own) {es : _} {K : _} : dkQ O (.dK es) K = (K es) := by first | rfl | (cases x <;> rfl)
theorem dkQ_e2 (O : Own) {a : _} {K : _} : dkQ O (.ref a) K = (onK (O a) K) := by first | rfl | (cases x <;> rfl)
theorem dtQ_e1 (O : Own) {es : _} {K : _} : dtQ O (.dT es) K = (K es) := by first | rfl | (cases x <;> rfl)
theorem dtQ_e2 (O : Own) {a : _} {K : _} : dtQ O (.ref a) K = (onT (O a) K) := by first | rfl | (cases x <;> rfl)
theorem findQ_e1 (O : Own) (x : DV) {z : _} {K : _} : findQ O x (.str z) K = (dkQ O x fun es => K (dget es (.inr z))) := by first | rfl | (cases x <;> rfl)
theorem findQ_e2 (O : Own) (x : DV) {i : _} {K : _} : findQ O x (.int i) K = (dkQ O x fun es => K (dget es (.inl i))) := by first | rfl | (cases x <;> rfl)
theorem findQ_e3 (O : Own) (x : DV) {ds : _} {K : _} : findQ O x (.tup ds) K = (onSome (keysD ds) fun k => dtQ O x fun es => K (dget es k)) := by first | rfl | (cases x <;> rfl)
theorem dAdd_e1 {i : _} {j : _} {O : _} {Q : _} : dAdd  (.int i) (.int j) O Q = (Q (.int (i + j)) O) := by first | rfl | (cases x <;> rfl)
theorem dAdd_e2 {i : _} {k : _} {O : _} {Q : _} : dAdd  (.int i) (.bl k) O Q = (Q (.int (i + b2i k)) O) := by first | rfl | (cases x <;> rfl)
theorem dAdd_e3 {a : _} {b : _} {O : _} {Q : _} : dAdd  (.str a) (.str b) O Q = (a.length + b.length ≤ sizeLine ∧ Q (.str (a ++ b)) O) := by first | rfl | (cases x <;> rfl)
theorem dAdd_e4 {xs : _} {ys : _} {O : _} {Q : _} : dAdd  (.tup xs) (.tup ys) O Q = (xs.length + ys.length ≤ sizeLine ∧ Q (.tup (xs ++ ys)) O) := by first | rfl | (cases x <;> rfl)
theorem dAdd_e5 {xs : _} {ys : _} {O : _} {Q : _} : dAdd  (.lst xs) (.lst ys) O Q = (xs.length + ys.length ≤ sizeLine ∧ Q (.lst (xs ++ ys)) O) := by first | rfl | (cases x <;> rfl)
theorem dAdd_e6 {a : _} {y : _} {O : _} {Q : _} : dAdd  (.ref a) y O Q = (onL (O a) fun xs => lstQ O y fun ys => xs.length + ys.length ≤ sizeLine ∧ Q (.lst (xs ++ ys)) O) := by first | rfl | (cases x <;> rfl)
theorem dAdd_e7 {xs : _} {b : _} {O : _} {Q : _} : dAdd  (.lst xs) (.ref b) O Q = (onL (O b) fun ys => xs.length + ys.length ≤ sizeLine ∧ Q (.lst (xs ++ ys)) O) := by first | rfl | (cases x <;> rfl)
theorem dI2_e1 (C : Int → Int → Prop) (g : Int → Int → DV) {i : _} {j : _} {O : _} {Q : _} : dI2 C g (.int i) (.int j) O Q = (C i j ∧ Q (g i j) O) := by first | rfl | (cases x <;> rfl)
theorem dSub_e1 {i : _} {j : _} {O : _} {Q : _} : dSub  (.int i) (.int j) O Q = (Q (.int (i - j)) O) := by first | rfl | (cases x <;> rfl)
theorem dCmpI_e1 (p : Int → Int → Bool) {i : _} {j : _} {O : _} {Q : _} : dCmpI p (.int i) (.int j) O Q = (Q (.bl (p i j)) O) := by first | rfl | (cases x <;> rfl)
theorem dEq_e1 (neg : Bool) {i : _} {j : _} {O : _} {Q : _} : dEq neg (.int i) (.int j) O Q = (Q (.bl (if neg then !decide (i = j) else decide (i = j))) O) := by first | rfl | (cases x <;> rfl)
theorem dEq_e2 (neg : Bool) {i : _} {j : _} {O : _} {Q : _} : dEq neg (.str i) (.str j) O Q = (Q (.bl (if neg then !decide (i = j) else decide (i = j))) O) := by first | rfl | (cases x <;> rfl)
theorem dEq_e3 (neg : Bool) {i : _} {j : _} {O : _} {Q : _} : dEq neg (.bl i) (.bl j) O Q = (Q (.bl (if neg then !decide (i = j) else decide (i = j))) O) := by first | rfl | (cases x <;> rfl)
theorem dEq_e4 (neg : Bool) {xs : _} {y : _} {O : _} {Q : _} : dEq neg (.lst xs) y O Q = (dEqP neg (.lst xs) y O Q) := by first | rfl | (cases x <;> rfl)
theorem dEq_e5 (neg : Bool) {xs : _} {y : _} {O : _} {Q : _} : dEq neg (.tup xs) y O Q = (dEqP neg (.tup xs) y O Q) := by first | rfl | (cases x <;> rfl)
theorem dEq_e6 (neg : Bool) {xs : _} {y : _} {O : _} {Q : _} : dEq neg (.stup xs) y O Q = (dEqP neg (.stup xs) y O Q) := by first | rfl | (cases x <;> rfl)
theorem dEq_e7 (neg : Bool) {y : _} {O : _} {Q : _} : dEq neg (.non) y O Q = (dEqP neg .non y O Q) := by first | rfl | (cases x <;> rfl)
theorem dEq_e8 (neg : Bool) {i : _} {O : _} {Q : _} : dEq neg (.int i) (.non) O Q = (dEqP neg (.int i) .non O Q) := by first | rfl | (cases x <;> rfl)
theorem dEq_e9 (neg : Bool) {i : _} {y : _} {O : _} {Q : _} : dEq neg (.int i) (.str y) O Q = (dEqP neg (.int i) (.str y) O Q) := by first | rfl | (cases x <;> rfl)
theorem dEq_e10 (neg : Bool) {i : _} {y : _} {O : _} {Q : _} : dEq neg (.int i) (.tup y) O Q = (dEqP neg (.int i) (.tup y) O Q) := by first | rfl | (cases x <;> rfl)
theorem dEq_e11 (neg : Bool) {i : _} {y : _} {O : _} {Q : _} : dEq neg (.int i) (.lst y) O Q = (dEqP neg (.int i) (.lst y) O Q) := by first | rfl | (cases x <;> rfl)
theorem dEq_e12 (neg : Bool) {i : _} {O : _} {Q : _} : dEq neg (.str i) (.non) O Q = (dEqP neg (.str i) .non O Q) := by first | rfl | (cases x <;> rfl)
theorem dEq_e13 (neg : Bool) {i : _} {y : _} {O : _} {Q : _} : dEq neg (.str i) (.int y) O Q = (dEqP neg (.str i) (.int y) O Q) := by first | rfl | (cases x <;> rfl)
theorem dEq_e14 (neg : Bool) {i : _} {y : _} {O : _} {Q : _} : dEq neg (.str i) (.tup y) O Q = (dEqP neg (.str i) (.tup y) O Q) := by first | rfl | (cases x <;> rfl)
theorem dEq_e15 (neg : Bool) {i : _} {y : _} {O : _} {Q : _} : dEq neg (.str i) (.lst y) O Q = (dEqP neg (.str i) (.lst y) O Q) := by first | rfl | (cases x <;> rfl)
theorem dIsN_e1 (neg : Bool) {x : _} {O : _} {Q : _} : dIsN neg x (.non) O Q = (Q (.bl (if neg then !isNon x else isNon x)) O) := by first | rfl | (cases x <;> rfl)
theorem isNon_e1 : isNon  (.non) = (true) := by first | rfl | (cases x <;> rfl)
theorem dInS_e1 (neg : Bool) (z : Str) (O : Own) (Q : DVK) (c : Str) {k : _} : dInS neg z O Q c [k] = (Q (.bl (if neg then !decide (k ∈ tl z) else decide (k ∈ tl z))) O) := by first | rfl | (cases x <;> rfl)
theorem dIn_e1 (neg : Bool) {c : _} {z : _} {O : _} {Q : _} : dIn neg (.str c) (.str z) O Q = (dInS neg z O Q c (tl c)) := by first | rfl | (cases x <;> rfl)
theorem dIn_e2 (neg : Bool) {x : _} {xs : _} {O : _} {Q : _} : dIn neg x (.lst xs) O Q = (dInQ neg x (.lst xs) O Q) := by first | rfl | (cases x <;> rfl)
theorem dIn_e3 (neg : Bool) {x : _} {xs : _} {O : _} {Q : _} : dIn neg x (.slst xs) O Q = (dInQ neg x (.slst xs) O Q) := by first | rfl | (cases x <;> rfl)
theorem dIn_e4 (neg : Bool) {x : _} {xs : _} {O : _} {Q : _} : dIn neg x (.tup xs) O Q = (dInQ neg x (.tup xs) O Q) := by first | rfl | (cases x <;> rfl)
theorem dIn_e5 (neg : Bool) {x : _} {xs : _} {O : _} {Q : _} : dIn neg x (.stup xs) O Q = (dInQ neg x (.stup xs) O Q) := by first | rfl | (cases x <;> rfl)
theorem dIn_e6 (neg : Bool) {x : _} {xs : _} {O : _} {Q : _} : dIn neg x (.ref xs) O Q = (dInQ neg x (.ref xs) O Q) := by first | rfl | (cases x <;> rfl)
theorem dInK_e1 (K : PySem.W.Frag) (d : Addr) (neg : Bool) {z : _} {a : _} {O : _} {Q : _} : dInK K d neg (.str z) (.ref a) O Q = (a = d ∧ ∃ r, PySem.W.nsIn K d z = some r ∧ Q (.bl (if neg then !r.isSome else r.isSome)) O) := by first | rfl | (cases x <;> rfl)
theorem dIx_e1 {z : _} {i : _} {O : _} {Q : _} : dIx  (.str z) (.int i) O Q = (z.length ≤ sizeLine ∧ onSome (atI (tl z) i) fun c => Q (.str ⟨#[c]⟩) O) := by first | rfl | (cases x <;> rfl)
theorem dIx_e2 {x : _} {i : _} {O : _} {Q : _} : dIx  (.lst x) (.int i) O Q = (dIxQ (.lst x) i O Q) := by first | rfl | (cases x <;> rfl)
theorem dIx_e3 {x : _} {i : _} {O : _} {Q : _} : dIx  (.slst x) (.int i) O Q = (dIxQ (.slst x) i O Q) := by first | rfl | (cases x <;> rfl)
theorem dIx_e4 {x : _} {i : _} {O : _} {Q : _} : dIx  (.tup x) (.int i) O Q = (dIxQ (.tup x) i O Q) := by first | rfl | (cases x <;> rfl)
theorem dIx_e5 {x : _} {i : _} {O : _} {Q : _} : dIx  (.stup x) (.int i) O Q = (dIxQ (.stup x) i O Q) := by first | rfl | (cases x <;> rfl)
theorem dIx_e6 {x : _} {i : _} {O : _} {Q : _} : dIx  (.ref x) (.int i) O Q = (dIxQ (.ref x) i O Q) := by first | rfl | (cases x <;> rfl)
theorem kBl_e1 (Q : Bool → Own → Prop) {b : _} {O : _} : kBl Q (.bl b) O = (Q b O) := by first | rfl | (cases x <;> rfl)
theorem kInt_e1 (Q : Int → Own → Prop) {i : _} {O : _} : kInt Q (.int i) O = (Q i O) := by first | rfl | (cases x <;> rfl)
theorem kTru_e1 (Q : Bool → Own → Prop) {O1 : _} : kTru Q (.non) O1 = (Q false O1) := by first | rfl | (cases x <;> rfl)
theorem kTru_e2 (Q : Bool → Own → Prop) {b : _} {O1 : _} : kTru Q (.bl b) O1 = (Q b O1) := by first | rfl | (cases x <;> rfl)
theorem kTru_e3 (Q : Bool → Own → Prop) {i : _} {O1 : _} : kTru Q (.int i) O1 = (Q (i != 0) O1) := by first | rfl | (cases x <;> rfl)
theorem kTru_e4 (Q : Bool → Own → Prop) {y : _} {O1 : _} : kTru Q (.str y) O1 = (y.length ≤ sizeLine ∧ Q ((y.length : Int) != 0) O1) := by first | rfl | (cases x <;> rfl)
theorem kTru_e5 (Q : Bool → Own → Prop) {xs : _} {O1 : _} : kTru Q (.lst xs) O1 = (Q (!xs.isEmpty) O1) := by first | rfl | (cases x <;> rfl)
theorem kTru_e6 (Q : Bool → Own → Prop) {xs : _} {O1 : _} : kTru Q (.slst xs) O1 = (Q (!xs.isEmpty) O1) := by first | rfl | (cases x <;> rfl)
theorem kTru_e7 (Q : Bool → Own → Prop) {xs : _} {O1 : _} : kTru Q (.tup xs) O1 = (Q (!xs.isEmpty) O1) := by first | rfl | (cases x <;> rfl)
theorem kTru_e8 (Q : Bool → Own → Prop) {xs : _} {O1 : _} : kTru Q (.stup xs) O1 = (Q (!xs.isEmpty) O1) := by first | rfl | (cases x <;> rfl)
theorem kTru_e9 (Q : Bool → Own → Prop) {a : _} {O1 : _} : kTru Q (.ref a) O1 = (onL (O1 a) fun xs => Q (!xs.isEmpty) O1) := by first | rfl | (cases x <;> rfl)
theorem kRef_e1 (Q : Addr → Own → Prop) {a : _} {O : _} : kRef Q (.ref a) O = (Q a O) := by first | rfl | (cases x <;> rfl)
theorem kLst_e1 (Q : List DV → Own → Prop) {xs : _} {O' : _} : kLst Q (.lst xs) O' = (Q xs O') := by first | rfl | (cases x <;> rfl)
theorem kLst_e2 (Q : List DV → Own → Prop) {xs : _} {O' : _} : kLst Q (.slst xs) O' = (Q xs O') := by first | rfl | (cases x <;> rfl)
theorem kTup_e1 (Q : List DV → Own → Prop) {xs : _} {O' : _} : kTup Q (.tup xs) O' = (Q xs O') := by first | rfl | (cases x <;> rfl)
theorem kTup_e2 (Q : List DV → Own → Prop) {xs : _} {O' : _} : kTup Q (.stup xs) O' = (Q xs O') := by first | rfl | (cases x <;> rfl)
theorem kStr_e1 (Q : Str → Own → Prop) {x : _} {O' : _} : kStr Q (.str x) O' = (Q x O') := by first | rfl | (cases x <;> rfl)
theorem kRng1_e1 (Q : List DV → Own → Prop) {j : _} {O' : _} : kRng1 Q [.int j] O' = ((-(2 ^ 62) ≤ j ∧ j < 2 ^ 62) ∧ Q ((List.range j.toNat).map fun (k : Nat) => .int (k : Int)) O') := by first | rfl | (cases x <;> rfl)
theorem kRng2_e1 (Q : List DV → Own → Prop) {i : _} {j : _} {O' : _} : kRng2 Q [.int i, .int j] O' = ((-(2 ^ 62) ≤ i ∧ i < 2 ^ 62 ∧ -(2 ^ 62) ≤ j ∧ j < 2 ^ 62) ∧ Q ((List.range (j - i).toNat).map fun (k : Nat) => .int (i + (k : Int))) O') := by first | rfl | (cases x <;> rfl)
theorem kEnum_e1 (Q : List DV → Own → Prop) {xs : _} {O' : _} : kEnum Q [.lst xs] O' = (Q (enumD 0 xs) O') := by first | rfl | (cases x <;> rfl)
theorem kEnum_e2 (Q : List DV → Own → Prop) {xs : _} {O' : _} : kEnum Q [.slst xs] O' = (Q (enumD 0 xs) O') := by first | rfl | (cases x <;> rfl)
theorem kZip_e1 (Q : List DV → Own → Prop) {xs : _} {ys : _} {O' : _} : kZip Q [.lst xs, .lst ys] O' = (Q (zipD xs ys) O') := by first | rfl | (cases x <;> rfl)
theorem frzC_e1 {xs : _} {K : _} : frzC  (some (.lst xs)) K = (K (.lst xs)) := by first | rfl | (cases x <;> rfl)
theorem frzC_e2 {xs : _} {K : _} : frzC  (some (.dK xs)) K = (K (.dK xs)) := by first | rfl | (cases x <;> rfl)
theorem frzC_e3 {xs : _} {K : _} : frzC  (some (.dT xs)) K = (K (.dT xs)) := by first | rfl | (cases x <;> rfl)
theorem dSlR_e1 {z : _} {lo : _} {hi : _} {O : _} {Q : _} : dSlR  (.str z) lo hi O Q = (z.length ≤ sizeLine ∧ Q (.str (cutS z lo hi)) O) := by first | rfl | (cases x <;> rfl)
theorem dSlR_e2 {xs : _} {lo : _} {hi : _} {O : _} {Q : _} : dSlR  (.tup xs) lo hi O Q = (Q (.tup (cutD xs lo hi)) O) := by first | rfl | (cases x <;> rfl)
theorem dSlR_e3 {xs : _} {lo : _} {hi : _} {O : _} {Q : _} : dSlR  (.lst xs) lo hi O Q = (Q (.lst (cutD xs lo hi)) O) := by first | rfl | (cases x <;> rfl)
theorem dSlR_e4 {xs : _} {lo : _} {hi : _} {O : _} {Q : _} : dSlR  (.slst xs) lo hi O Q = (Q (.lst (cutD xs lo hi)) O) := by first | rfl | (cases x <;> rfl)
theorem dSlR_e5 {a : _} {lo : _} {hi : _} {O : _} {Q : _} : dSlR  (.ref a) lo hi O Q = (onL (O a) fun xs => Q (.lst (cutD xs lo hi)) O) := by first | rfl | (cases x <;> rfl)
theorem dLen_e1 {y : _} {O : _} {Q : _} : dLen  [.str y] O Q = (y.length ≤ sizeLine ∧ Q (.int y.length) O) := by first | rfl | (cases x <;> rfl)
theorem dLen_e2 {xs : _} {O : _} {Q : _} : dLen  [.lst xs] O Q = (Q (.int xs.length) O) := by first | rfl | (cases x <;> rfl)
theorem dLen_e3 {xs : _} {O : _} {Q : _} : dLen  [.slst xs] O Q = (Q (.int xs.length) O) := by first | rfl | (cases x <;> rfl)
theorem dLen_e4 {xs : _} {O : _} {Q : _} : dLen  [.tup xs] O Q = (Q (.int xs.length) O) := by first | rfl | (cases x <;> rfl)
theorem dLen_e5 {xs : _} {O : _} {Q : _} : dLen  [.stup xs] O Q = (Q (.int xs.length) O) := by first | rfl | (cases x <;> rfl)
theorem dLen_e6 {a : _} {O : _} {Q : _} : dLen  [.ref a] O Q = (onL (O a) fun xs => Q (.int xs.length) O) := by first | rfl | (cases x <;> rfl)
theorem dInt_e1 {i : _} {O : _} {Q : _} : dInt  [.int i] O Q = (Q (.int i) O) := by first | rfl | (cases x <;> rfl)
theorem dInt_e2 {k : _} {O : _} {Q : _} : dInt  [.bl k] O Q = (Q (.int (if k then 1 else 0)) O) := by first | rfl | (cases x <;> rfl)
theorem dInt_e3 {a : _} {O : _} {Q : _} : dInt  [.str a] O Q = (∃ n, PySem.intText? a = some n ∧ a.length ≤ 640 ∧ Q (.int n) O) := by first | rfl | (cases x <;> rfl)
theorem dStrI_e1 {i : _} {O : _} {Q : _} : dStrI  [.int i] O Q = (i.natAbs.log2 < 1920 ∧ Q (.str (toString i)) O) := by first | rfl | (cases x <;> rfl)
theorem dIsi_e1 {d : _} {b : _} {O : _} {Q : _} : dIsi  [d, .ty b] O Q = (onSome (tyName O d) fun a => b ∈ ["int", "str", "bool", "list", "tuple", "dict"] ∧ Q (.bl (subTy a b)) O) := by first | rfl | (cases x <;> rfl)
theorem tyName_e1 (O : Own) : tyName O (.non) = (some "NoneType") := by first | rfl | (cases x <;> rfl)
theorem tyName_e2 (O : Own) {u1 : _} : tyName O (.bl u1) = (some "bool") := by first | rfl | (cases x <;> rfl)
theorem tyName_e3 (O : Own) {u1 : _} : tyName O (.int u1) = (some "int") := by first | rfl | (cases x <;> rfl)
theorem tyName_e4 (O : Own) {u1 : _} : tyName O (.str u1) = (some "str") := by first | rfl | (cases x <;> rfl)
theorem tyName_e5 (O : Own) {u1 : _} : tyName O (.tup u1) = (some "tuple") := by first | rfl | (cases x <;> rfl)
theorem tyName_e6 (O : Own) {u1 : _} : tyName O (.stup u1) = (some "tuple") := by first | rfl | (cases x <;> rfl)
theorem tyName_e7 (O : Own) {u1 : _} : tyName O (.lst u1) = (some "list") := by first | rfl | (cases x <;> rfl)
theorem tyName_e8 (O : Own) {u1 : _} : tyName O (.slst u1) = (some "list") := by first | rfl | (cases x <;> rfl)
theorem tyName_e9 (O : Own) {u1 : _} : tyName O (.dK u1) = (some "dict") := by first | rfl | (cases x <;> rfl)
theorem tyName_e10 (O : Own) {a : _} : tyName O (.ref a) = (match O a with
    | some (.lst _) => some "list"
    | some (.dK _) => some "dict"
    | some (.dT _) => some "dict"
    | _ => none) := by first | rfl | (cases x <;> rfl)
theorem dApp_e1 {a : _} {y : _} {O : _} {Q : _} : dApp  (.ref a) [y] O Q = (onL (O a) fun xs => xs.length < sizeLine ∧ Q .non (oset O a (.lst (xs ++ [y])))) := by first | rfl | (cases x <;> rfl)
theorem dJoin_e1 {a : _} {d : _} {O : _} {Q : _} : dJoin  (.str a) [d] O Q = (seqQ O d fun xs => onSome (strsOf xs) fun ys => (ys.map (·.length)).sum + ys.length * a.length ≤ 16777216 ∧ Q (.str (Txt.join a ys)) O) := by first | rfl | (cases x <;> rfl)
theorem dSplit_e1 {a : _} {b : _} {O : _} {Q : _} : dSplit  (.str a) [.str b] O Q = ((b.length == 0) = false ∧ a.length + 2 ≤ sizeLine ∧ Q (.lst ((Txt.split a b).map DV.str)) O) := by first | rfl | (cases x <;> rfl)
theorem dgNil_e1 {S : _} {O : _} {Q : _} : dgNil  [] S O Q = (Q S O) := by first | rfl | (cases x <;> rfl)
theorem dgCons_e1 (g : DTG) (u : DTGs) {d : _} {r : _} {S : _} {O : _} {Q : _} : dgCons g u (d :: r) S O Q = (g d S O fun S' O' => u r S' O' Q) := by first | rfl | (cases x <;> rfl)
theorem dgTup_e1 (n : Nat) (t : DTGs) {ds : _} {S : _} {O : _} {Q : _} : dgTup n t (.tup ds) S O Q = (ds.length = n ∧ t ds S O Q) := by first | rfl | (cases x <;> rfl)
theorem dSetL_e1 {a : _} {k : _} {v : _} {O : _} {Q : _} : dSetL  (.ref a) (.int k) v O Q = (onL (O a) fun xs => onSome (ixN xs.length k) fun j => Q (oset O a (.lst (xs.set j v)))) := by first | rfl | (cases x <;> rfl)
theorem dSetD_e1 {a : _} {z : _} {v : _} {O : _} {Q : _} : dSetD  (.ref a) (.str z) v O Q = (onK (O a) fun es => es.length < 16000000 ∧ Q (oset O a (.dK (dput es (.inr z) v)))) := by first | rfl | (cases x <;> rfl)
theorem dSetD_e2 {a : _} {z : _} {v : _} {O : _} {Q : _} : dSetD  (.ref a) (.int z) v O Q = (onK (O a) fun es => es.length < 16000000 ∧ Q (oset O a (.dK (dput es (.inl z) v)))) := by first | rfl | (cases x <;> rfl)
theorem dSetD_e3 {a : _} {ds : _} {v : _} {O : _} {Q : _} : dSetD  (.ref a) (.tup ds) v O Q = (onT (O a) fun es => onSome (keysD ds) fun k => es.length < 16000000 ∧ Q (oset O a (.dT (dput es k v)))) := by first | rfl | (cases x <;> rfl)
theorem dIAdd_e1 {i : _} {j : _} {O : _} {Q : _} : dIAdd  (.int i) (.int j) O Q = (Q (.int (i + j)) O) := by first | rfl | (cases x <;> rfl)
theorem dIAdd_e2 {a : _} {b : _} {O : _} {Q : _} : dIAdd  (.str a) (.str b) O Q = (a.length + b.length ≤ sizeLine ∧ Q (.str (a ++ b)) O) := by first | rfl | (cases x <;> rfl)
theorem dISub_e1 {i : _} {j : _} {O : _} {Q : _} : dISub  (.int i) (.int j) O Q = (Q (.int (i - j)) O) := by first | rfl | (cases x <;> rfl)
theorem apart_e1 (a : Addr) {b : _} : apart a (.ref b) = (a ≠ b) := by first | rfl | (cases x <;> rfl)
theorem dUpd_e1 {a : _} {d : _} {O : _} {Q : _} : dUpd  (.ref a) [d] O Q = (onK (O a) fun es => dkQ O d fun em => apart a d ∧ es.length + em.length ≤ 1000000 ∧ Q .non (oset O a (.dK (dmerge es em)))) := by first | rfl | (cases x <;> rfl)
theorem dMulS_e1 {z : _} {n : _} {O : _} {Q : _} : dMulS  (.str z) (.int n) O Q = ((n < 100000 ∧ -100000 < n ∧ z.length < 100) ∧ Q (.str (repS z n)) O) := by first | rfl | (cases x <;> rfl)
theorem dInL_e1 (a : Addr) (xs : List Str) {z : _} {b : _} {O : _} {Q : _} : dInL a xs (.str z) (.ref b) O Q = (b = a ∧ Q (.bl (decide (z ∈ xs))) O) := by first | rfl | (cases x <;> rfl)
theorem endLc_e1 {Q : _} {acc : _} {O : _} : endLc  false Q acc O = (Q (.lst acc) O) := by first | rfl | (cases x <;> rfl)
theorem endLc_e2 {Q : _} {acc : _} {O : _} : endLc  true Q acc O = (∀ p, O p = none → Q (.ref p) (oset O p (.lst acc))) := by first | rfl | (cases x <;> rfl)
theorem bindN_e1 (is : List Nat) {ds : _} {S : _} : bindN is (.tup ds) S = (setAll S is ds) := by first | rfl | (cases x <;> rfl)
theorem setAll_e1 {S : _} : setAll  S [] [] = (some S) := by first | rfl | (cases x <;> rfl)
theorem setAll_e2 {S : _} {i : _} {is : _} {d : _} {ds : _} : setAll  S (i :: is) (d :: ds) = (setAll (S.set i (some d)) is ds) := by first | rfl | (cases x <;> rfl)
theorem mTy_e1 (O : Own) {u1 : _} : mTy O (.str u1) = (some "str") := by first | rfl | (cases x <;> rfl)
theorem mTy_e2 (O : Own) {u1 : _} : mTy O (.lst u1) = (some "list") := by first | rfl | (cases x <;> rfl)
theorem mTy_e3 (O : Own) {u1 : _} : mTy O (.slst u1) = (some "list") := by first | rfl | (cases x <;> rfl)
theorem mTy_e4 (O : Own) {a : _} : mTy O (.ref a) = (match O a with
    | some (.lst _) => some "list"
    | some (.dK _) => some "dict"
    | some (.dT _) => some "dict"
    | _ => none) := by first | rfl | (cases x <;> rfl)
theorem strsOf_e1 : strsOf  [] = (some []) := by first | rfl | (cases x <;> rfl)
theorem strsOf_e2 {x : _} {r : _} : strsOf  (.str x :: r) = (match strsOf r with
    | some ys => some (x :: ys)
    | none => none) := by first | rfl | (cases x <;> rfl)
theorem keyD_e1 {x : _} : keyD  (.str x) = (some (.inr x)) := by first | rfl | (cases x <;> rfl)
theorem keyD_e2 {i : _} : keyD  (.int i) = (some (.inl i)) := by first | rfl | (cases x <;> rfl)
theorem keysD_e1 : keysD  [] = (some []) := by first | rfl | (cases x <;> rfl)
theorem keysD_e2 {d : _} {r : _} : keysD  (d :: r) = (match keyD d, keysD r with
    | some k, some ks => some (k :: ks)
    | _, _ => none) := by first | rfl | (cases x <;> rfl)
theorem forW_e1 (g : DTG) (tb : DTS) (D : DEnds) {S : _} {O : _} : forW g tb D [] S O = (D.nx S O) := by first | rfl | (cases x <;> rfl)
theorem forW_e2 (g : DTG) (tb : DTS) (D : DEnds) {x : _} {r : _} {S : _} {O : _} : forW g tb D (x :: r) S O = (g x S O fun S2 O2 => tb { D with nx := forW g tb D r, ct := forW g tb D r, bk := D.nx } S2 O2) := by first | rfl | (cases x <;> rfl)
theorem lcW_e1 (ow : Bool) (b : DV → DSt → Option DSt) (tt : DTT) (te : DTE) (S : DSt) (Q : DVK) {acc : _} {O : _} : lcW ow b tt te S Q [] acc O = (endLc ow Q acc O) := by first | rfl | (cases x <;> rfl)
theorem lcW_e2 (ow : Bool) (b : DV → DSt → Option DSt) (tt : DTT) (te : DTE) (S : DSt) (Q : DVK) {x : _} {r : _} {acc : _} {O : _} : lcW ow b tt te S Q (x :: r) acc O = (onSome (b x S) fun S2 => tt S2 O fun c O2 => if c = true then te S2 O2 fun y O3 => acc.length < 16000000 ∧ lcW ow b tt te S Q r (acc ++ [y]) O3 else lcW ow b tt te S Q r acc O2) := by first | rfl | (cases x <;> rfl)
theorem lcG_e1 (b : DV → DSt → Option DSt) (tt : DTT) (te : DTE) (S : DSt) (R : List DV → Own → Prop) {acc : _} {O : _} : lcG b tt te S R [] acc O = (R acc O) := by first | rfl | (cases x <;> rfl)
theorem lcG_e2 (b : DV → DSt → Option DSt) (tt : DTT) (te : DTE) (S : DSt) (R : List DV → Own → Prop) {x : _} {r : _} {acc : _} {O : _} : lcG b tt te S R (x :: r) acc O = (onSome (b x S) fun S2 => tt S2 O fun c O2 => if c = true then te S2 O2 fun y O3 => acc.length < 16000000 ∧ lcG b tt te S R r (acc ++ [y]) O3 else lcG b tt te S R r acc O2) := by first | rfl | (cases x <;> rfl)
theorem lc2W_e1 (ow : Bool) (b : DV → DSt → Option DSt) (tt : DTT) (di1 : DTI) (b1 : DV → DSt → Option DSt) (tt1 : DTT) (te : DTE) (vs1 : List Nat) (S : DSt) (Q : DVK) {acc : _} {O : _} : lc2W ow b tt di1 b1 tt1 te vs1 S Q [] acc O = (endLc ow Q acc O) := by first | rfl | (cases x <;> rfl)
theorem lc2W_e2 (ow : Bool) (b : DV → DSt → Option DSt) (tt : DTT) (di1 : DTI) (b1 : DV → DSt → Option DSt) (tt1 : DTT) (te : DTE) (vs1 : List Nat) (S : DSt) (Q : DVK) {x : _} {r : _} {acc : _} {O : _} : lc2W ow b tt di1 b1 tt1 te vs1 S Q (x :: r) acc O = (onSome (b x S) fun S2 => tt S2 O fun c O2 => if c = true then di1 S2 O2 fun ds1 O3 => lcG b1 tt1 te (dwipe S2 vs1) (lc2W ow b tt di1 b1 tt1 te vs1 S Q r) ds1 acc O3 else lc2W ow b tt di1 b1 tt1 te vs1 S Q r acc O2) := by first | rfl | (cases x <;> rfl)
theorem dPairs_e1 {u1 : _} {O : _} {Q : _} : dPairs  [] u1 O Q = (Q [] O) := by first | rfl | (cases x <;> rfl)
theorem dPairs_e2 {tk : _} {tv : _} {r : _} {S : _} {O : _} {Q : _} : dPairs  ((tk, tv) :: r) S O Q = (tk S O fun x O1 => tv S O1 fun y O2 => dPairs r S O2 fun ps O3 => Q ((x, y) :: ps) O3) := by first | rfl | (cases x <;> rfl)
theorem kvsOf_e1 : kvsOf  [] = (some []) := by first | rfl | (cases x <;> rfl)
theorem kvsOf_e2 {k : _} {v : _} {r : _} : kvsOf  ((k, v) :: r) = (match keyD k, kvsOf r with
    | some k', some r' => some ((k', v) :: r')
    | _, _ => none) := by first | rfl | (cases x <;> rfl)
theorem slot_e1 {x : _} {u1 : _} : slot  (x :: u1) 0 = (x) := by first | rfl | (cases x <;> rfl)
theorem slot_e2 {u1 : _} {r : _} {n : _} : slot  (u1 :: r) (n + 1) = (slot r n) := by first | rfl | (cases x <;> rfl)
theorem dwipe_e1 (S : DSt) : dwipe S [] = (S) := by first | rfl | (cases x <;> rfl)
theorem dwipe_e2 (S : DSt) {v : _} {vs : _} : dwipe S (v :: vs) = ((dwipe S vs).set v none) := by first | rfl | (cases x <;> rfl)
theorem enumD_e1 {u1 : _} : enumD  u1 [] = ([]) := by first | rfl | (cases x <;> rfl)
theorem enumD_e2 {n : _} {x : _} {r : _} : enumD  n (x :: r) = (.tup [.int (n : Int), x] :: enumD (n + 1) r) := by first | rfl | (cases x <;> rfl)
theorem zipD_e1 {x : _} {r : _} {y : _} {q : _} : zipD  (x :: r) (y :: q) = (.tup [x, y] :: zipD r q) := by first | rfl | (cases x <;> rfl)
theorem dstart_e1 {u1 : _} : dstart  0 u1 = ([]) := by first | rfl | (cases x <;> rfl)
theorem dstart_e2 {n : _} : dstart  (n + 1) [] = (none :: dstart n []) := by first | rfl | (cases x <;> rfl)
theorem dstart_e3 {n : _} {d : _} {ds : _} : dstart  (n + 1) (d :: ds) = (some d :: dstart n ds) := by first | rfl | (cases x <;> rfl)
theorem flatD_e1 : flatD  (.non) = (true) := by first | rfl | (cases x <;> rfl)
theorem flatD_e2 {u1 : _} : flatD  (.bl u1) = (true) := by first | rfl | (cases x <;> rfl)
theorem flatD_e3 {u1 : _} : flatD  (.int u1) = (true) := by first | rfl | (cases x <;> rfl)
theorem flatD_e4 {u1 : _} : flatD  (.str u1) = (true) := by first | rfl | (cases x <;> rfl)
theorem eqF_e1 : eqF  (.non) (.non) = (true) := by first | rfl | (cases x <;> rfl)
theorem eqF_e2 {a : _} {b : _} : eqF  (.bl a) (.bl b) = (a == b) := by first | rfl | (cases x <;> rfl)
theorem eqF_e3 {a : _} {b : _} : eqF  (.bl a) (.int b) = ((if a then 1 else 0) == b) := by first | rfl | (cases x <;> rfl)
theorem eqF_e4 {a : _} {b : _} : eqF  (.int a) (.bl b) = (a == (if b then 1 else 0)) := by first | rfl | (cases x <;> rfl)
theorem eqF_e5 {a : _} {b : _} : eqF  (.int a) (.int b) = (a == b) := by first | rfl | (cases x <;> rfl)
theorem eqF_e6 {a : _} {b : _} : eqF  (.str a) (.str b) = (a == b) := by first | rfl | (cases x <;> rfl)
theorem dTupOf_e1 {xs : _} {O : _} {Q : _} : dTupOf  [.lst xs] O Q = (Q (.tup xs) O) := by first | rfl | (cases x <;> rfl)
theorem dTupOf_e2 {xs : _} {O : _} {Q : _} : dTupOf  [.tup xs] O Q = (Q (.tup xs) O) := by first | rfl | (cases x <;> rfl)
theorem dTupOf_e3 {a : _} {O : _} {Q : _} : dTupOf  [.ref a] O Q = (onL (O a) fun xs => Q (.tup xs) O) := by first | rfl | (cases x <;> rfl)
theorem dListOf_e1 {d : _} {O : _} {Q : _} : dListOf  [d] O Q = (seqQ O d fun xs => ∀ p, O p = none → Q (.ref p) (oset O p (.lst xs))) := by first | rfl | (cases x <;> rfl)
theorem dMin2_e1 {i : _} {j : _} {O : _} {Q : _} : dMin2  [.int i, .int j] O Q = (Q (.int (if j < i then j else i)) O) := by first | rfl | (cases x <;> rfl)
theorem dExt_e1 {a : _} {d : _} {O : _} {Q : _} : dExt  (.ref a) [d] O Q = (onL (O a) fun xs => lstQ O d fun zs => xs.length + zs.length ≤ sizeLine ∧ Q .non (oset O a (.lst (xs ++ zs)))) := by first | rfl | (cases x <;> rfl)
theorem dMulL_e1 {d : _} {k : _} {O : _} {Q : _} : dMulL  d (.int k) O Q = (lstQ O d fun xs => -(2 ^ 63) ≤ k ∧ k < 2 ^ 63 ∧ xs.length * k.toNat ≤ sizeLine ∧ Q (.lst (List.replicate k.toNat xs).flatten) O) := by first | rfl | (cases x <;> rfl)
theorem dIsD_e1 (O : Own) {u1 : _} : dIsD O (.dK u1) = (True) := by first | rfl | (cases x <;> rfl)
theorem dIsD_e2 (O : Own) {u1 : _} : dIsD O (.dT u1) = (True) := by first | rfl | (cases x <;> rfl)
theorem dIsD_e3 (O : Own) {a : _} : dIsD O (.ref a) = (match O a with
    | some (.dK _) => True
    | some (.dT _) => True
    | _ => False) := by first | rfl | (cases x <;> rfl)
theorem dSortD_e1 {d : _} {O : _} {Q : _} : dSortD  [d] O Q = (dkQ O d fun es => ∃ ks : List Str, es.map (·.1) = ks.map Sum.inr ∧ ks.length < 64 ∧ ∀ ys : List Str, ys.Perm ks → Q (.lst (ys.map DV.str)) O) := by first | rfl | (cases x <;> rfl)
theorem kStr1_e1 (Q : Str → Own → Prop) {k : _} {O : _} : kStr1 Q (.str k) O = (Q k O) := by first | rfl | (cases x <;> rfl)
theorem klook_e1 {x : _} {xs : _} {z : _} : klook  (x :: xs) z = (if x.1 = z then some x.2 else klook xs z) := by first | rfl | (cases x <;> rfl)
end DL
set_option Elab.async false
set_option linter.all false
set_option maxRecDepth 100000
set_option autoImplicit true
namespace DL
open PySem PySem.Spec PyProof.Rows L2 TL
theorem dVar_n0 {x : DV} {r : DSt} {O : Own} {Q : DVK} : dVar 0 (some x :: r) O Q = Q x O := rfl
theorem dgName_n0 {x : DV} {y : Option DV} {r : DSt} {O : Own} {Q : DSt → Own → Prop} : dgName 0 x (y :: r) O Q = Q (some x :: r) O := rfl
theorem obind_n0 {x : DV} {y : Option DV} {r : DSt} {K : DSt → Prop} : onSome (bind1 0 x (y :: r)) K = K (some x :: r) := rfl
theorem oslot_n0 {x : DV} {r : DSt} {K : DV → Prop} : onSome (slot (some x :: r) 0) K = K x := rfl
theorem dVar_n1 {a0 : Option DV} {x : DV} {r : DSt} {O : Own} {Q : DVK} : dVar 1 (a0 :: some x :: r) O Q = Q x O := rfl
theorem dgName_n1 {a0 : Option DV} {x : DV} {y : Option DV} {r : DSt} {O : Own} {Q : DSt → Own → Prop} : dgName 1 x (a0 :: y :: r) O Q = Q (a0 :: some x :: r) O := rfl
theorem obind_n1 {a0 : Option DV} {x : DV} {y : Option DV} {r : DSt} {K : DSt → Prop} : onSome (bind1 1 x (a0 :: y :: r)) K = K (a0 :: some x :: r) := rfl
theorem oslot_n1 {a0 : Option DV} {x : DV} {r : DSt} {K : DV → Prop} : onSome (slot (a0 :: some x :: r) 1) K = K x := rfl
theorem dVar_n2 {a0 : Option DV} {a1 : Option DV} {x : DV} {r : DSt} {O : Own} {Q : DVK} : dVar 2 (a0 :: a1 :: some x :: r) O Q = Q x O := rfl
theorem dgName_n2 {a0 : Option DV} {a1 : Option DV} {x : DV} {y : Option DV} {r : DSt} {O : Own} {Q : DSt → Own → Prop} : dgName 2 x (a0 :: a1 :: y :: r) O Q = Q (a0 :: a1 :: some x :: r) O := rfl
theorem obind_n2 {a0 : Option DV} {a1 : Option DV} {x : DV} {y : Option DV} {r : DSt} {K : DSt → Prop} : onSome (bind1 2 x (a0 :: a1 :: y :: r)) K = K (a0 :: a1 :: some x :: r) := rfl
theorem oslot_n2 {a0 : Option DV} {a1 : Option DV} {x : DV} {r : DSt} {K : DV → Prop} : onSome (slot (a0 :: a1 :: some x :: r) 2) K = K x := rfl
theorem dVar_n3 {a0 : Option DV} {a1 : Option DV} {a2 : Option DV} {x : DV} {r : DSt} {O : Own} {Q : DVK} : dVar 3 (a0 :: a1 :: a2 :: some x :: r) O Q = Q x O := rfl
theorem dgName_n3 {a0 : Option DV} {a1 : Option DV} {a2 : Option DV} {x : DV} {y : Option DV} {r : DSt} {O : Own} {Q : DSt → Own → Prop} : dgName 3 x (a0 :: a1 :: a2 :: y :: r) O Q = Q (a0 :: a1 :: a2 :: some x :: r) O := rfl
theorem obind_n3 {a0 : Option DV} {a1 : Option DV} {a2 : Option DV} {x : DV} {y : Option DV} {r : DSt} {K : DSt → Prop} : onSome (bind1 3 x (a0 :: a1 :: a2 :: y :: r)) K = K (a0 :: a1 :: a2 :: some x :: r) := rfl
theorem oslot_n3 {a0 : Option DV} {a1 : Option DV} {a2 : Option DV} {x : DV} {r : DSt} {K : DV → Prop} : onSome (slot (a0 :: a1 :: a2 :: some x :: r) 3) K = K x := rfl
theorem dVar_n4 {a0 : Option DV} {a1 : Option DV} {a2 : Option DV} {a3 : Option DV} {x : DV} {r : DSt} {O : Own} {Q : DVK} : dVar 4 (a0 :: a1 :: a2 :: a3 :: some x :: r) O Q = Q x O := rfl
theorem dgName_n4 {a0 : Option DV} {a1 : Option DV} {a2 : Option DV} {a3 : Option DV} {x : DV} {y : Option DV} {r : DSt} {O : Own} {Q : DSt → Own → Prop} : dgName 4 x (a0 :: a1 :: a2 :: a3 :: y :: r) O Q = Q (a0 :: a1 :: a2 :: a3 :: some x :: r) O := rfl
theorem obind_n4 {a0 : Option DV} {a1 : Option DV} {a2 : Option DV} {a3 : Option DV} {x : DV} {y : Option DV} {r : DSt} {K : DSt → Prop} : onSome (bind1 4 x (a0 :: a1 :: a2 :: a3 :: y :: r)) K = K (a0 :: a1 :: a2 :: a3 :: some x :: r) := rfl
theorem oslot_n4 {a0 : Option DV} {a1 : Option DV} {a2 : Option DV} {a3 : Option DV} {x : DV} {r : DSt} {K : DV → Prop} : onSome (slot (a0 :: a1 :: a2 :: a3 :: some x :: r) 4) K = K x := rfl
theorem dVar_n5 {a0 : Option DV} {a1 : Option DV} {a2 : Option DV} {a3 : Option DV} {a4 : Option DV} {x : DV} {r : DSt} {O : Own} {Q : DVK} : dVar 5 (a0 :: a1 :: a2 :: a3 :: a4 :: some x :: r) O Q = Q x O := rfl
theorem dgName_n5 {a0 : Option DV} {a1 : Option DV} {a2 : Option DV} {a3 : Option DV} {a4 : Option DV} {x : DV} {y : Option DV} {r : DSt} {O : Own} {Q : DSt → Own → Prop} : dgName 5 x (a0 :: a1 :: a2 :: a3 :: a4 :: y :: r) O Q = Q (a0 :: a1 :: a2 :: a3 :: a4 :: some x :: r) O := rfl
theorem obind_n5 {a0 : Option DV} {a1 : Option DV} {a2 : Option DV} {a3 : Option DV} {a4 : Option DV} {x : DV} {y : Option DV} {r : DSt} {K : DSt → Prop} : onSome (bind1 5 x (a0 :: a1 :: a2 :: a3 :: a4 :: y :: r)) K = K (a0 :: a1 :: a2 :: a3 :: a4 :: some x :: r) := rfl
theorem oslot_n5 {a0 : Option DV} {a1 : Option DV} {a2 : Option DV} {a3 : Option DV} {a4 : Option DV} {x : DV} {r : DSt} {K : DV → Prop} : onSome (slot (a0 :: a1 :: a2 :: a3 :: a4 :: some x :: r) 5) K = K x := rfl
theorem dVar_n6 {a0 : Option DV} {a1 : Option DV} {a2 : Option DV} {a3 : Option DV} {a4 : Option DV} {a5 : Option DV} {x : DV} {r : DSt} {O : Own} {Q : DVK} : dVar 6 (a0 :: a1 :: a2 :: a3 :: a4 :: a5 :: some x :: r) O Q = Q x O := rfl
theorem dgName_n6 {a0 : Option DV} {a1 : Option DV} {a2 : Option DV} {a3 : Option DV} {a4 : Option DV} {a5 : Option DV} {x : DV} {y : Option DV} {r : DSt} {O : Own} {Q : DSt → Own → Prop} : dgName 6 x (a0 :: a1 :: a2 :: a3 :: a4 :: a5 :: y :: r) O Q = Q (a0 :: a1 :: a2 :: a3 :: a4 :: a5 :: some x :: r) O := rfl
theorem obind_n6 {a0 : Option DV} {a1 : Option DV} {a2 : Option DV} {a3 : Option DV} {a4 : Option DV} {a5 : Option DV} {x : DV} {y : Option DV} {r : DSt} {K : DSt → Prop} : onSome (bind1 6 x (a0 :: a1 :: a2 :: a3 :: a4 :: a5 :: y :: r)) K = K (a0 :: a1 :: a2 :: a3 :: a4 :: a5 :: some x :: r) := rfl
theorem oslot_n6 {a0 : Option DV} {a1 : Option DV} {a2 : Option DV} {a3 : Option DV} {a4 : Option DV} {a5 : Option DV} {x : DV} {r : DSt} {K : DV → Prop} : onSome (slot (a0 :: a1 :: a2 :: a3 :: a4 :: a5 :: some x :: r) 6) K = K x := rfl
theorem dVar_n7 {a0 : Option DV} {a1 : Option DV} {a2 : Option DV} {a3 : Option DV} {a4 : Option DV} {a5 : Option DV} {a6 : Option DV} {x : DV} {r : DSt} {O : Own} {Q : DVK} : dVar 7 (a0 :: a1 :: a2 :: a3 :: a4 :: a5 :: a6 :: some x :: r) O Q = Q x O := rfl
theorem dgName_n7 {a0 : Option DV} {a1 : Option DV} {a2 : Option DV} {a3 : Option DV} {a4 : Option DV} {a5 : Option DV} {a6 : Option DV} {x : DV} {y : Option DV} {r : DSt} {O : Own} {Q : DSt → Own → Prop} : dgName 7 x (a0 :: a1 :: a2 :: a3 :: a4 :: a5 :: a6 :: y :: r) O Q = Q (a0 :: a1 :: a2 :: a3 :: a4 :: a5 :: a6 :: some x :: r) O := rfl
theorem obind_n7 {a0 : Option DV} {a1 : Option DV} {a2 : Option DV} {a3 : Option DV} {a4 : Option DV} {a5 : Option DV} {a6 : Option DV} {x : DV} {y : Option DV} {r : DSt} {K : DSt → Prop} : onSome (bind1 7 x (a0 :: a1 :: a2 :: a3 :: a4 :: a5 :: a6 :: y :: r)) K = K (a0 :: a1 :: a2 :: a3 :: a4 :: a5 :: a6 :: some x :: r) := rfl
theorem oslot_n7 {a0 : Option DV} {a1 : Option DV} {a2 : Option DV} {a3 : Option DV} {a4 : Option DV} {a5 : Option DV} {a6 : Option DV} {x : DV} {r : DSt} {K : DV → Prop} : onSome (slot (a0 :: a1 :: a2 :: a3 :: a4 :: a5 :: a6 :: some x :: r) 7) K = K x := rfl
theorem dVar_n8 {a0 : Option DV} {a1 : Option DV} {a2 : Option DV} {a3 : Option DV} {a4 : Option DV} {a5 : Option DV} {a6 : Option DV} {a7 : Option DV} {x : DV} {r : DSt} {O : Own} {Q : DVK} : dVar 8 (a0 :: a1 :: a2 :: a3 :: a4 :: a5 :: a6 :: a7 :: some x :: r) O Q = Q x O := rfl
theorem dgName_n8 {a0 : Option DV} {a1 : Option DV} {a2 : Option DV} {a3 : Option DV} {a4 : Option DV} {a5 : Option DV} {a6 : Option DV} {a7 : Option DV} {x : DV} {y : Option DV} {r : DSt} {O : Own} {Q : DSt → Own → Prop} : dgName 8 x (a0 :: a1 :: a2 :: a3 :: a4 :: a5 :: a6 :: a7 :: y :: r) O Q = Q (a0 :: a1 :: a2 :: a3 :: a4 :: a5 :: a6 :: a7 :: some x :: r) O := rfl
theorem obind_n8 {a0 : Option DV} {a1 : Option DV} {a2 : Option DV} {a3 : Option DV} {a4 : Option DV} {a5 : Option DV} {a6 : Option DV} {a7 : Option DV} {x : DV} {y : Option DV} {r : DSt} {K : DSt → Prop} : onSome (bind1 8 x (a0 :: a1 :: a2 :: a3 :: a4 :: a5 :: a6 :: a7 :: y :: r)) K = K (a0 :: a1 :: a2 :: a3 :: a4 :: a5 :: a6 :: a7 :: some x :: r) := rfl
theorem oslot_n8 {a0 : Option DV} {a1 : Option DV} {a2 : Option DV} {a3 : Option DV} {a4 : Option DV} {a5 : Option DV} {a6 : Option DV} {a7 : Option DV} {x : DV} {r : DSt} {K : DV → Prop} : onSome (slot (a0 :: a1 :: a2 :: a3 :: a4 :: a5 :: a6 :: a7 :: some x :: r) 8) K = K x := rfl
theorem dVar_n9 {a0 : Option DV} {a1 : Option DV} {a2 : Option DV} {a3 : Option DV} {a4 : Option DV} {a5 : Option DV} {a6 : Option DV} {a7 : Option DV} {a8 : Option DV} {x : DV} {r : DSt} {O : Own} {Q : DVK} : dVar 9 (a0 :: a1 :: a2 :: a3 :: a4 :: a5 :: a6 :: a7 :: a8 :: some x :: r) O Q = Q x O := rfl
theorem dgName_n9 {a0 : Option DV} {a1 : Option DV} {a2 : Option DV} {a3 : Option DV} {a4 : Option DV} {a5 : Option DV} {a6 : Option DV} {a7 : Option DV} {a8 : Option DV} {x : DV} {y : Option DV} {r : DSt} {O : Own} {Q : DSt → Own → Prop} : dgName 9 x (a0 :: a1 :: a2 :: a3 :: a4 :: a5 :: a6 :: a7 :: a8 :: y :: r) O Q = Q (a0 :: a1 :: a2 :: a3 :: a4 :: a5 :: a6 :: a7 :: a8 :: some x :: r) O := rfl
theorem obind_n9 {a0 : Option DV} {a1 : Option DV} {a2 : Option DV} {a3 : Option DV} {a4 : Option DV} {a5 : Option DV} {a6 : Option DV} {a7 : Option DV} {a8 : Option DV} {x : DV} {y : Option DV} {r : DSt} {K : DSt → Prop} : onSome (bind1 9 x (a0 :: a1 :: a2 :: a3 :: a4 :: a5 :: a6 :: a7 :: a8 :: y :: r)) K = K (a0 :: a1 :: a2 :: a3 :: a4 :: a5 :: a6 :: a7 :: a8 :: some x :: r) := rfl
theorem oslot_n9 {a0 : Option DV} {a1 : Option DV} {a2 : Option DV} {a3 : Option DV} {a4 : Option DV} {a5 : Option DV} {a6 : Option DV} {a7 : Option DV} {a8 : Option DV} {x : DV} {r : DSt} {K : DV → Prop} : onSome (slot (a0 :: a1 :: a2 :: a3 :: a4 :: a5 :: a6 :: a7 :: a8 :: some x :: r) 9) K = K x := rfl
theorem dVar_n10 {a0 : Option DV} {a1 : Option DV} {a2 : Option DV} {a3 : Option DV} {a4 : Option DV} {a5 : Option DV} {a6 : Option DV} {a7 : Option DV} {a8 : Option DV} {a9 : Option DV} {x : DV} {r : DSt} {O : Own} {Q : DVK} : dVar 10 (a0 :: a1 :: a2 :: a3 :: a4 :: a5 :: a6 :: a7 :: a8 :: a9 :: some x :: r) O Q = Q x O := rfl
theorem dgName_n10 {a0 : Option DV} {a1 : Option DV} {a2 : Option DV} {a3 : Option DV} {a4 : Option DV} {a5 : Option DV} {a6 : Option DV} {a7 : Option DV} {a8 : Option DV} {a9 : Option DV} {x : DV} {y : Option DV} {r : DSt} {O : Own} {Q : DSt → Own → Prop} : dgName 10 x (a0 :: a1 :: a2 :: a3 :: a4 :: a5 :: a6 :: a7 :: a8 :: a9 :: y :: r) O Q = Q (a0 :: a1 :: a2 :: a3 :: a4 :: a5 :: a6 :: a7 :: a8 :: a9 :: some x :: r) O := rfl
theorem obind_n10 {a0 : Option DV} {a1 : Option DV} {a2 : Option DV} {a3 : Option DV} {a4 : Option DV} {a5 : Option DV} {a6 : Option DV} {a7 : Option DV} {a8 : Option DV} {a9 : Option DV} {x : DV} {y : Option DV} {r : DSt} {K : DSt → Prop} : onSome (bind1 10 x (a0 :: a1 :: a2 :: a3 :: a4 :: a5 :: a6 :: a7 :: a8 :: a9 :: y :: r)) K = K (a0 :: a1 :: a2 :: a3 :: a4 :: a5 :: a6 :: a7 :: a8 :: a9 :: some x :: r) := rfl
theorem oslot_n10 {a0 : Option DV} {a1 : Option DV} {a2 : Option DV} {a3 : Option DV} {a4 : Option DV} {a5 : Option DV} {a6 : Option DV} {a7 : Option DV} {a8 : Option DV} {a9 : Option DV} {x : DV} {r : DSt} {K : DV → Prop} : onSome (slot (a0 :: a1 :: a2 :: a3 :: a4 :: a5 :: a6 :: a7 :: a8 :: a9 :: some x :: r) 10) K = K x := rfl
theorem dVar_n11 {a0 : Option DV} {a1 : Option DV} {a2 : Option DV} {a3 : Option DV} {a4 : Option DV} {a5 : Option DV} {a6 : Option DV} {a7 : Option DV} {a8 : Option DV} {a9 : Option DV} {a10 : Option DV} {x : DV} {r : DSt} {O : Own} {Q : DVK} : dVar 11 (a0 :: a1 :: a2 :: a3 :: a4 :: a5 :: a6 :: a7 :: a8 :: a9 :: a10 :: some x :: r) O Q = Q x O := rfl
theorem dgName_n11 {a0 : Option DV} {a1 : Option DV} {a2 : Option DV} {a3 : Option DV} {a4 : Option DV} {a5 : Option DV} {a6 : Option DV} {a7 : Option DV} {a8 : Option DV} {a9 : Option DV} {a10 : Option DV} {x : DV} {y : Option DV} {r : DSt} {O : Own} {Q : DSt → Own → Prop} : dgName 11 x (a0 :: a1 :: a2 :: a3 :: a4 :: a5 :: a6 :: a7 :: a8 :: a9 :: a10 :: y :: r) O Q = Q (a0 :: a1 :: a2 :: a3 :: a4 :: a5 :: a6 :: a7 :: a8 :: a9 :: a10 :: some x :: r) O := rfl
theorem obind_n11 {a0 : Option DV} {a1 : Option DV} {a2 : Option DV} {a3 : Option DV} {a4 : Option DV} {a5 : Option DV} {a6 : Option DV} {a7 : Option DV} {a8 : Option DV} {a9 : Option DV} {a10 : Option DV} {x : DV} {y : Option DV} {r : DSt} {K : DSt → Prop} : onSome (bind1 11 x (a0 :: a1 :: a2 :: a3 :: a4 :: a5 :: a6 :: a7 :: a8 :: a9 :: a10 :: y :: r)) K = K (a0 :: a1 :: a2 :: a3 :: a4 :: a5 :: a6 :: a7 :: a8 :: a9 :: a10 :: some x :: r) := rfl
theorem oslot_n11 {a0 : Option DV} {a1 : Option DV} {a2 : Option DV} {a3 : Option DV} {a4 : Option DV} {a5 : Option DV} {a6 : Option DV} {a7 : Option DV} {a8 : Option DV} {a9 : Option DV} {a10 : Option DV} {x : DV} {r : DSt} {K : DV → Prop} : onSome (slot (a0 :: a1 :: a2 :: a3 :: a4 :: a5 :: a6 :: a7 :: a8 :: a9 :: a10 :: some x :: r) 11) K = K x := rfl
theorem dVar_n12 {a0 : Option DV} {a1 : Option DV} {a2 : Option DV} {a3 : Option DV} {a4 : Option DV} {a5 : Option DV} {a6 : Option DV} {a7 : Option DV} {a8 : Option DV} {a9 : Option DV} {a10 : Option DV} {a11 : Option DV} {x : DV} {r : DSt} {O : Own} {Q : DVK} : dVar 12 (a0 :: a1 :: a2 :: a3 :: a4 :: a5 :: a6 :: a7 :: a8 :: a9 :: a10 :: a11 :: some x :: r) O Q = Q x O := rfl
theorem dgName_n12 {a0 : Option DV} {a1 : Option DV} {a2 : Option DV} {a3 : Option DV} {a4 : Option DV} {a5 : Option DV} {a6 : Option DV} {a7 : Option DV} {a8 : Option DV} {a9 : Option DV} {a10 : Option DV} {a11 : Option DV} {x : DV} {y : Option DV} {r : DSt} {O : Own} {Q : DSt → Own → Prop} : dgName 12 x (a0 :: a1 :: a2 :: a3 :: a4 :: a5 :: a6 :: a7 :: a8 :: a9 :: a10 :: a11 :: y :: r) O Q = Q (a0 :: a1 :: a2 :: a3 :: a4 :: a5 :: a6 :: a7 :: a8 :: a9 :: a10 :: a11 :: some x :: r) O := rfl
theorem obind_n12 {a0 : Option DV} {a1 : Option DV} {a2 : Option DV} {a3 : Option DV} {a4 : Option DV} {a5 : Option DV} {a6 : Option DV} {a7 : Option DV} {a8 : Option DV} {a9 : Option DV} {a10 : Option DV} {a11 : Option DV} {x : DV} {y : Option DV} {r : DSt} {K : DSt → Prop} : onSome (bind1 12 x (a0 :: a1 :: a2 :: a3 :: a4 :: a5 :: a6 :: a7 :: a8 :: a9 :: a10 :: a11 :: y :: r)) K = K (a0 :: a1 :: a2 :: a3 :: a4 :: a5 :: a6 :: a7 :: a8 :: a9 :: a10 :: a11 :: some x :: r) := rfl
theorem oslot_n12 {a0 : Option DV} {a1 : Option DV} {a2 : Option DV} {a3 : Option DV} {a4 : Option DV} {a5 : Option DV} {a6 : Option DV} {a7 : Option DV} {a8 : Option DV} {a9 : Option DV} {a10 : Option DV} {a11 : Option DV} {x : DV} {r : DSt} {K : DV → Prop} : onSome (slot (a0 :: a1 :: a2 :: a3 :: a4 :: a5 :: a6 :: a7 :: a8 :: a9 :: a10 :: a11 :: some x :: r) 12) K = K x := rfl
theorem dVar_n13 {a0 : Option DV} {a1 : Option DV} {a2 : Option DV} {a3 : Option DV} {a4 : Option DV} {a5 : Option DV} {a6 : Option DV} {a7 : Option DV} {a8 : Option DV} {a9 : Option DV} {a10 : Option DV} {a11 : Option DV} {a12 : Option DV} {x : DV} {r : DSt} {O : Own} {Q : DVK} : dVar 13 (a0 :: a1 :: a2 :: a3 :: a4 :: a5 :: a6 :: a7 :: a8 :: a9 :: a10 :: a11 :: a12 :: some x :: r) O Q = Q x O := rfl
theorem dgName_n13 {a0 : Option DV} {a1 : Option DV} {a2 : Option DV} {a3 : Option DV} {a4 : Option DV} {a5 : Option DV} {a6 : Option DV} {a7 : Option DV} {a8 : Option DV} {a9 : Option DV} {a10 : Option DV} {a11 : Option DV} {a12 : Option DV} {x : DV} {y : Option DV} {r : DSt} {O : Own} {Q : DSt → Own → Prop} : dgName 13 x (a0 :: a1 :: a2 :: a3 :: a4 :: a5 :: a6 :: a7 :: a8 :: a9 :: a10 :: a11 :: a12 :: y :: r) O Q = Q (a0 :: a1 :: a2 :: a3 :: a4 :: a5 :: a6 :: a7 :: a8 :: a9 :: a10 :: a11 :: a12 :: some x :: r) O := rfl
theorem obind_n13 {a0 : Option DV} {a1 : Option DV} {a2 : Option DV} {a3 : Option DV} {a4 : Option DV} {a5 : Option DV} {a6 : Option DV} {a7 : Option DV} {a8 : Option DV} {a9 : Option DV} {a10 : Option DV} {a11 : Option DV} {a12 : Option DV} {x : DV} {y : Option DV} {r : DSt} {K : DSt → Prop} : onSome (bind1 13 x (a0 :: a1 :: a2 :: a3 :: a4 :: a5 :: a6 :: a7 :: a8 :: a9 :: a10 :: a11 :: a12 :: y :: r)) K = K (a0 :: a1 :: a2 :: a3 :: a4 :: a5 :: a6 :: a7 :: a8 :: a9 :: a10 :: a11 :: a12 :: some x :: r) := rfl
theorem oslot_n13 {a0 : Option DV} {a1 : Option DV} {a2 : Option DV} {a3 : Option DV} {a4 : Option DV} {a5 : Option DV} {a6 : Option DV} {a7 : Option DV} {a8 : Option DV} {a9 : Option DV} {a10 : Option DV} {a11 : Option DV} {a12 : Option DV} {x : DV} {r : DSt} {K : DV → Prop} : onSome (slot (a0 :: a1 :: a2 :: a3 :: a4 :: a5 :: a6 :: a7 :: a8 :: a9 :: a10 :: a11 :: a12 :: some x :: r) 13) K = K x := rfl
theorem dVar_n14 {a0 : Option DV} {a1 : Option DV} {a2 : Option DV} {a3 : Option DV} {a4 : Option DV} {a5 : Option DV} {a6 : Option DV} {a7 : Option DV} {a8 : Option DV} {a9 : Option DV} {a10 : Option DV} {a11 : Option DV} {a12 : Option DV} {a13 : Option DV} {x : DV} {r : DSt} {O : Own} {Q : DVK} : dVar 14 (a0 :: a1 :: a2 :: a3 :: a4 :: a5 :: a6 :: a7 :: a8 :: a9 :: a10 :: a11 :: a12 :: a13 :: some x :: r) O Q = Q x O := rfl
theorem dgName_n14 {a0 : Option DV} {a1 : Option DV} {a2 : Option DV} {a3 : Option DV} {a4 : Option DV} {a5 : Option DV} {a6 : Option DV} {a7 : Option DV} {a8 : Option DV} {a9 : Option DV} {a10 : Option DV} {a11 : Option DV} {a12 : Option DV} {a13 : Option DV} {x : DV} {y : Option DV} {r : DSt} {O : Own} {Q : DSt → Own → Prop} : dgName 14 x (a0 :: a1 :: a2 :: a3 :: a4 :: a5 :: a6 :: a7 :: a8 :: a9 :: a10 :: a11 :: a12 :: a13 :: y :: r) O Q = Q (a0 :: a1 :: a2 :: a3 :: a4 :: a5 :: a6 :: a7 :: a8 :: a9 :: a10 :: a11 :: a12 :: a13 :: some x :: r) O := rfl
theorem obind_n14 {a0 : Option DV} {a1 : Option DV} {a2 : Option DV} {a3 : Option DV} {a4 : Option DV} {a5 : Option DV} {a6 : Option DV} {a7 : Option DV} {a8 : Option DV} {a9 : Option DV} {a10 : Option DV} {a11 : Option DV} {a12 : Option DV} {a13 : Option DV} {x : DV} {y : Option DV} {r : DSt} {K : DSt → Prop} : onSome (bind1 14 x (a0 :: a1 :: a2 :: a3 :: a4 :: a5 :: a6 :: a7 :: a8 :: a9 :: a10 :: a11 :: a12 :: a13 :: y :: r)) K = K (a0 :: a1 :: a2 :: a3 :: a4 :: a5 :: a6 :: a7 :: a8 :: a9 :: a10 :: a11 :: a12 :: a13 :: some x :: r) := rfl
theorem oslot_n14 {a0 : Option DV} {a1 : Option DV} {a2 : Option DV} {a3 : Option DV} {a4 : Option DV} {a5 : Option DV} {a6 : Option DV} {a7 : Option DV} {a8 : Option DV} {a9 : Option DV} {a10 : Option DV} {a11 : Option DV} {a12 : Option DV} {a13 : Option DV} {x : DV} {r : DSt} {K : DV → Prop} : onSome (slot (a0 :: a1 :: a2 :: a3 :: a4 :: a5 :: a6 :: a7 :: a8 :: a9 :: a10 :: a11 :: a12 :: a13 :: some x :: r) 14) K = K x := rfl
theorem dVar_n15 {a0 : Option DV} {a1 : Option DV} {a2 : Option DV} {a3 : Option DV} {a4 : Option DV} {a5 : Option DV} {a6 : Option DV} {a7 : Option DV} {a8 : Option DV} {a9 : Option DV} {a10 : Option DV} {a11 : Option DV} {a12 : Option DV} {a13 : Option DV} {a14 : Option DV} {x : DV} {r : DSt} {O : Own} {Q : DVK} : dVar 15 (a0 :: a1 :: a2 :: a3 :: a4 :: a5 :: a6 :: a7 :: a8 :: a9 :: a10 :: a11 :: a12 :: a13 :: a14 :: some x :: r) O Q = Q x O := rfl
theorem dgName_n15 {a0 : Option DV} {a1 : Option DV} {a2 : Option DV} {a3 : Option DV} {a4 : Option DV} {a5 : Option DV} {a6 : Option DV} {a7 : Option DV} {a8 : Option DV} {a9 : Option DV} {a10 : Option DV} {a11 : Option DV} {a12 : Option DV} {a13 : Option DV} {a14 : Option DV} {x : DV} {y : Option DV} {r : DSt} {O : Own} {Q : DSt → Own → Prop} : dgName 15 x (a0 :: a1 :: a2 :: a3 :: a4 :: a5 :: a6 :: a7 :: a8 :: a9 :: a10 :: a11 :: a12 :: a13 :: a14 :: y :: r) O Q = Q (a0 :: a1 :: a2 :: a3 :: a4 :: a5 :: a6 :: a7 :: a8 :: a9 :: a10 :: a11 :: a12 :: a13 :: a14 :: some x :: r) O := rfl
theorem obind_n15 {a0 : Option DV} {a1 : Option DV} {a2 : Option DV} {a3 : Option DV} {a4 : Option DV} {a5 : Option DV} {a6 : Option DV} {a7 : Option DV} {a8 : Option DV} {a9 : Option DV} {a10 : Option DV} {a11 : Option DV} {a12 : Option DV} {a13 : Option DV} {a14 : Option DV} {x : DV} {y : Option DV} {r : DSt} {K : DSt → Prop} : onSome (bind1 15 x (a0 :: a1 :: a2 :: a3 :: a4 :: a5 :: a6 :: a7 :: a8 :: a9 :: a10 :: a11 :: a12 :: a13 :: a14 :: y :: r)) K = K (a0 :: a1 :: a2 :: a3 :: a4 :: a5 :: a6 :: a7 :: a8 :: a9 :: a10 :: a11 :: a12 :: a13 :: a14 :: some x :: r) := rfl
theorem oslot_n15 {a0 : Option DV} {a1 : Option DV} {a2 : Option DV} {a3 : Option DV} {a4 : Option DV} {a5 : Option DV} {a6 : Option DV} {a7 : Option DV} {a8 : Option DV} {a9 : Option DV} {a10 : Option DV} {a11 : Option DV} {a12 : Option DV} {a13 : Option DV} {a14 : Option DV} {x : DV} {r : DSt} {K : DV → Prop} : onSome (slot (a0 :: a1 :: a2 :: a3 :: a4 :: a5 :: a6 :: a7 :: a8 :: a9 :: a10 :: a11 :: a12 :: a13 :: a14 :: some x :: r) 15) K = K x := rfl
theorem dVar_n16 {a0 : Option DV} {a1 : Option DV} {a2 : Option DV} {a3 : Option DV} {a4 : Option DV} {a5 : Option DV} {a6 : Option DV} {a7 : Option DV} {a8 : Option DV} {a9 : Option DV} {a10 : Option DV} {a11 : Option DV} {a12 : Option DV} {a13 : Option DV} {a14 : Option DV} {a15 : Option DV} {x : DV} {r : DSt} {O : Own} {Q : DVK} : dVar 16 (a0 :: a1 :: a2 :: a3 :: a4 :: a5 :: a6 :: a7 :: a8 :: a9 :: a10 :: a11 :: a12 :: a13 :: a14 :: a15 :: some x :: r) O Q = Q x O := rfl
theorem dgName_n16 {a0 : Option DV} {a1 : Option DV} {a2 : Option DV} {a3 : Option DV} {a4 : Option DV} {a5 : Option DV} {a6 : Option DV} {a7 : Option DV} {a8 : Option DV} {a9 : Option DV} {a10 : Option DV} {a11 : Option DV} {a12 : Option DV} {a13 : Option DV} {a14 : Option DV} {a15 : Option DV} {x : DV} {y : Option DV} {r : DSt} {O : Own} {Q : DSt → Own → Prop} : dgName 16 x (a0 :: a1 :: a2 :: a3 :: a4 :: a5 :: a6 :: a7 :: a8 :: a9 :: a10 :: a11 :: a12 :: a13 :: a14 :: a15 :: y :: r) O Q = Q (a0 :: a1 :: a2 :: a3 :: a4 :: a5 :: a6 :: a7 :: a8 :: a9 :: a10 :: a11 :: a12 :: a13 :: a14 :: a15 :: some x :: r) O := rfl
theorem obind_n16 {a0 : Option DV} {a1 : Option DV} {a2 : Option DV} {a3 : Option DV} {a4 : Option DV} {a5 : Option DV} {a6 : Option DV} {a7 : Option DV} {a8 : Option DV} {a9 : Option DV} {a10 : Option DV} {a11 : Option DV} {a12 : Option DV} {a13 : Option DV} {a14 : Option DV} {a15 : Option DV} {x : DV} {y : Option DV} {r : DSt} {K : DSt → Prop} : onSome (bind1 16 x (a0 :: a1 :: a2 :: a3 :: a4 :: a5 :: a6 :: a7 :: a8 :: a9 :: a10 :: a11 :: a12 :: a13 :: a14 :: a15 :: y :: r)) K = K (a0 :: a1 :: a2 :: a3 :: a4 :: a5 :: a6 :: a7 :: a8 :: a9 :: a10 :: a11 :: a12 :: a13 :: a14 :: a15 :: some x :: r) := rfl
theorem oslot_n16 {a0 : Option DV} {a1 : Option DV} {a2 : Option DV} {a3 : Option DV} {a4 : Option DV} {a5 : Option DV} {a6 : Option DV} {a7 : Option DV} {a8 : Option DV} {a9 : Option DV} {a10 : Option DV} {a11 : Option DV} {a12 : Option DV} {a13 : Option DV} {a14 : Option DV} {a15 : Option DV} {x : DV} {r : DSt} {K : DV → Prop} : onSome (slot (a0 :: a1 :: a2 :: a3 :: a4 :: a5 :: a6 :: a7 :: a8 :: a9 :: a10 :: a11 :: a12 :: a13 :: a14 :: a15 :: some x :: r) 16) K = K x := rfl
theorem dVar_n17 {a0 : Option DV} {a1 : Option DV} {a2 : Option DV} {a3 : Option DV} {a4 : Option DV} {a5 : Option DV} {a6 : Option DV} {a7 : Option DV} {a8 : Option DV} {a9 : Option DV} {a10 : Option DV} {a11 : Option DV} {a12 : Option DV} {a13 : Option DV} {a14 : Option DV} {a15 : Option DV} {a16 : Option DV} {x : DV} {r : DSt} {O : Own} {Q : DVK} : dVar 17 (a0 :: a1 :: a2 :: a3 :: a4 :: a5 :: a6 :: a7 :: a8 :: a9 :: a10 :: a11 :: a12 :: a13 :: a14 :: a15 :: a16 :: some x :: r) O Q = Q x O := rfl
theorem dgName_n17 {a0 : Option DV} {a1 : Option DV} {a2 : Option DV} {a3 : Option DV} {a4 : Option DV} {a5 : Option DV} {a6 : Option DV} {a7 : Option DV} {a8 : Option DV} {a9 : Option DV} {a10 : Option DV} {a11 : Option DV} {a12 : Option DV} {a13 : Option DV} {a14 : Option DV} {a15 : Option DV} {a16 : Option DV} {x : DV} {y : Option DV} {r : DSt} {O : Own} {Q : DSt → Own → Prop} : dgName 17 x (a0 :: a1 :: a2 :: a3 :: a4 :: a5 :: a6 :: a7 :: a8 :: a9 :: a10 :: a11 :: a12 :: a13 :: a14 :: a15 :: a16 :: y :: r) O Q = Q (a0 :: a1 :: a2 :: a3 :: a4 :: a5 :: a6 :: a7 :: a8 :: a9 :: a10 :: a11 :: a12 :: a13 :: a14 :: a15 :: a16 :: some x :: r) O := rfl
theorem obind_n17 {a0 : Option DV} {a1 : Option DV} {a2 : Option DV} {a3 : Option DV} {a4 : Option DV} {a5 : Option DV} {a6 : Option DV} {a7 : Option DV} {a8 : Option DV} {a9 : Option DV} {a10 : Option DV} {a11 : Option DV} {a12 : Option DV} {a13 : Option DV} {a14 : Option DV} {a15 : Option DV} {a16 : Option DV} {x : DV} {y : Option DV} {r : DSt} {K : DSt → Prop} : onSome (bind1 17 x (a0 :: a1 :: a2 :: a3 :: a4 :: a5 :: a6 :: a7 :: a8 :: a9 :: a10 :: a11 :: a12 :: a13 :: a14 :: a15 :: a16 :: y :: r)) K = K (a0 :: a1 :: a2 :: a3 :: a4 :: a5 :: a6 :: a7 :: a8 :: a9 :: a10 :: a11 :: a12 :: a13 :: a14 :: a15 :: a16 :: some x :: r) := rfl
theorem oslot_n17 {a0 : Option DV} {a1 : Option DV} {a2 : Option DV} {a3 : Option DV} {a4 : Option DV} {a5 : Option DV} {a6 : Option DV} {a7 : Option DV} {a8 : Option DV} {a9 : Option DV} {a10 : Option DV} {a11 : Option DV} {a12 : Option DV} {a13 : Option DV} {a14 : Option DV} {a15 : Option DV} {a16 : Option DV} {x : DV} {r : DSt} {K : DV → Prop} : onSome (slot (a0 :: a1 :: a2 :: a3 :: a4 :: a5 :: a6 :: a7 :: a8 :: a9 :: a10 :: a11 :: a12 :: a13 :: a14 :: a15 :: a16 :: some x :: r) 17) K = K x := rfl
theorem dVar_n18 {a0 : Option DV} {a1 : Option DV} {a2 : Option DV} {a3 : Option DV} {a4 : Option DV} {a5 : Option DV} {a6 : Option DV} {a7 : Option DV} {a8 : Option DV} {a9 : Option DV} {a10 : Option DV} {a11 : Option DV} {a12 : Option DV} {a13 : Option DV} {a14 : Option DV} {a15 : Option DV} {a16 : Option DV} {a17 : Option DV} {x : DV} {r : DSt} {O : Own} {Q : DVK} : dVar 18 (a0 :: a1 :: a2 :: a3 :: a4 :: a5 :: a6 :: a7 :: a8 :: a9 :: a10 :: a11 :: a12 :: a13 :: a14 :: a15 :: a16 :: a17 :: some x :: r) O Q = Q x O := rfl
theorem dgName_n18 {a0 : Option DV} {a1 : Option DV} {a2 : Option DV} {a3 : Option DV} {a4 : Option DV} {a5 : Option DV} {a6 : Option DV} {a7 : Option DV} {a8 : Option DV} {a9 : Option DV} {a10 : Option DV} {a11 : Option DV} {a12 : Option DV} {a13 : Option DV} {a14 : Option DV} {a15 : Option DV} {a16 : Option DV} {a17 : Option DV} {x : DV} {y : Option DV} {r : DSt} {O : Own} {Q : DSt → Own → Prop} : dgName 18 x (a0 :: a1 :: a2 :: a3 :: a4 :: a5 :: a6 :: a7 :: a8 :: a9 :: a10 :: a11 :: a12 :: a13 :: a14 :: a15 :: a16 :: a17 :: y :: r) O Q = Q (a0 :: a1 :: a2 :: a3 :: a4 :: a5 :: a6 :: a7 :: a8 :: a9 :: a10 :: a11 :: a12 :: a13 :: a14 :: a15 :: a16 :: a17 :: some x :: r) O := rfl
theorem obind_n18 {a0 : Option DV} {a1 : Option DV} {a2 : Option DV} {a3 : Option DV} {a4 : Option DV} {a5 : Option DV} {a6 : Option DV} {a7 : Option DV} {a8 : Option DV} {a9 : Option DV} {a10 : Option DV} {a11 : Option DV} {a12 : Option DV} {a13 : Option DV} {a14 : Option DV} {a15 : Option DV} {a16 : Option DV} {a17 : Option DV} {x : DV} {y : Option DV} {r : DSt} {K : DSt → Prop} : onSome (bind1 18 x (a0 :: a1 :: a2 :: a3 :: a4 :: a5 :: a6 :: a7 :: a8 :: a9 :: a10 :: a11 :: a12 :: a13 :: a14 :: a15 :: a16 :: a17 :: y :: r)) K = K (a0 :: a1 :: a2 :: a3 :: a4 :: a5 :: a6 :: a7 :: a8 :: a9 :: a10 :: a11 :: a12 :: a13 :: a14 :: a15 :: a16 :: a17 :: some x :: r) := rfl
theorem oslot_n18 {a0 : Option DV} {a1 : Option DV} {a2 : Option DV} {a3 : Option DV} {a4 : Option DV} {a5 : Option DV} {a6 : Option DV} {a7 : Option DV} {a8 : Option DV} {a9 : Option DV} {a10 : Option DV} {a11 : Option DV} {a12 : Option DV} {a13 : Option DV} {a14 : Option DV} {a15 : Option DV} {a16 : Option DV} {a17 : Option DV} {x : DV} {r : DSt} {K : DV → Prop} : onSome (slot (a0 :: a1 :: a2 :: a3 :: a4 :: a5 :: a6 :: a7 :: a8 :: a9 :: a10 :: a11 :: a12 :: a13 :: a14 :: a15 :: a16 :: a17 :: some x :: r) 18) K = K x := rfl
theorem dVar_n19 {a0 : Option DV} {a1 : Option DV} {a2 : Option DV} {a3 : Option DV} {a4 : Option DV} {a5 : Option DV} {a6 : Option DV} {a7 : Option DV} {a8 : Option DV} {a9 : Option DV} {a10 : Option DV} {a11 : Option DV} {a12 : Option DV} {a13 : Option DV} {a14 : Option DV} {a15 : Option DV} {a16 : Option DV} {a17 : Option DV} {a18 : Option DV} {x : DV} {r : DSt} {O : Own} {Q : DVK} : dVar 19 (a0 :: a1 :: a2 :: a3 :: a4 :: a5 :: a6 :: a7 :: a8 :: a9 :: a10 :: a11 :: a12 :: a13 :: a14 :: a15 :: a16 :: a17 :: a18 :: some x :: r) O Q = Q x O := rfl
theorem dgName_n19 {a0 : Option DV} {a1 : Option DV} {a2 : Option DV} {a3 : Option DV} {a4 : Option DV} {a5 : Option DV} {a6 : Option DV} {a7 : Option DV} {a8 : Option DV} {a9 : Option DV} {a10 : Option DV} {a11 : Option DV} {a12 : Option DV} {a13 : Option DV} {a14 : Option DV} {a15 : Option DV} {a16 : Option DV} {a17 : Option DV} {a18 : Option DV} {x : DV} {y : Option DV} {r : DSt} {O : Own} {Q : DSt → Own → Prop} : dgName 19 x (a0 :: a1 :: a2 :: a3 :: a4 :: a5 :: a6 :: a7 :: a8 :: a9 :: a10 :: a11 :: a12 :: a13 :: a14 :: a15 :: a16 :: a17 :: a18 :: y :: r) O Q = Q (a0 :: a1 :: a2 :: a3 :: a4 :: a5 :: a6 :: a7 :: a8 :: a9 :: a10 :: a11 :: a12 :: a13 :: a14 :: a15 :: a16 :: a17 :: a18 :: some x :: r) O := rfl
theorem obind_n19 {a0 : Option DV} {a1 : Option DV} {a2 : Option DV} {a3 : Option DV} {a4 : Option DV} {a5 : Option DV} {a6 : Option DV} {a7 : Option DV} {a8 : Option DV} {a9 : Option DV} {a10 : Option DV} {a11 : Option DV} {a12 : Option DV} {a13 : Option DV} {a14 : Option DV} {a15 : Option DV} {a16 : Option DV} {a17 : Option DV} {a18 : Option DV} {x : DV} {y : Option DV} {r : DSt} {K : DSt → Prop} : onSome (bind1 19 x (a0 :: a1 :: a2 :: a3 :: a4 :: a5 :: a6 :: a7 :: a8 :: a9 :: a10 :: a11 :: a12 :: a13 :: a14 :: a15 :: a16 :: a17 :: a18 :: y :: r)) K = K (a0 :: a1 :: a2 :: a3 :: a4 :: a5 :: a6 :: a7 :: a8 :: a9 :: a10 :: a11 :: a12 :: a13 :: a14 :: a15 :: a16 :: a17 :: a18 :: some x :: r) := rfl
theorem oslot_n19 {a0 : Option DV} {a1 : Option DV} {a2 : Option DV} {a3 : Option DV} {a4 : Option DV} {a5 : Option DV} {a6 : Option DV} {a7 : Option DV} {a8 : Option DV} {a9 : Option DV} {a10 : Option DV} {a11 : Option DV} {a12 : Option DV} {a13 : Option DV} {a14 : Option DV} {a15 : Option DV} {a16 : Option DV} {a17 : Option DV} {a18 : Option DV} {x : DV} {r : DSt} {K : DV → Prop} : onSome (slot (a0 :: a1 :: a2 :: a3 :: a4 :: a5 :: a6 :: a7 :: a8 :: a9 :: a10 :: a11 :: a12 :: a13 :: a14 :: a15 :: a16 :: a17 :: a18 :: some x :: r) 19) K = K x := rfl
theorem dVar_n20 {a0 : Option DV} {a1 : Option DV} {a2 : Option DV} {a3 : Option DV} {a4 : Option DV} {a5 : Option DV} {a6 : Option DV} {a7 : Option DV} {a8 : Option DV} {a9 : Option DV} {a10 : Option DV} {a11 : Option DV} {a12 : Option DV} {a13 : Option DV} {a14 : Option DV} {a15 : Option DV} {a16 : Option DV} {a17 : Option DV} {a18 : Option DV} {a19 : Option DV} {x : DV} {r : DSt} {O : Own} {Q : DVK} : dVar 20 (a0 :: a1 :: a2 :: a3 :: a4 :: a5 :: a6 :: a7 :: a8 :: a9 :: a10 :: a11 :: a12 :: a13 :: a14 :: a15 :: a16 :: a17 :: a18 :: a19 :: some x :: r) O Q = Q x O := rfl
theorem dgName_n20 {a0 : Option DV} {a1 : Option DV} {a2 : Option DV} {a3 : Option DV} {a4 : Option DV} {a5 : Option DV} {a6 : Option DV} {a7 : Option DV} {a8 : Option DV} {a9 : Option DV} {a10 : Option DV} {a11 : Option DV} {a12 : Option DV} {a13 : Option DV} {a14 : Option DV} {a15 : Option DV} {a16 : Option DV} {a17 : Option DV} {a18 : Option DV} {a19 : Option DV} {x : DV} {y : Option DV} {r : DSt} {O : Own} {Q : DSt → Own → Prop} : dgName 20 x (a0 :: a1 :: a2 :: a3 :: a4 :: a5 :: a6 :: a7 :: a8 :: a9 :: a10 :: a11 :: a12 :: a13 :: a14 :: a15 :: a16 :: a17 :: a18 :: a19 :: y :: r) O Q = Q (a0 :: a1 :: a2 :: a3 :: a4 :: a5 :: a6 :: a7 :: a8 :: a9 :: a10 :: a11 :: a12 :: a13 :: a14 :: a15 :: a16 :: a17 :: a18 :: a19 :: some x :: r) O := rfl
theorem obind_n20 {a0 : Option DV} {a1 : Option DV} {a2 : Option DV} {a3 : Option DV} {a4 : Option DV} {a5 : Option DV} {a6 : Option DV} {a7 : Option DV} {a8 : Option DV} {a9 : Option DV} {a10 : Option DV} {a11 : Option DV} {a12 : Option DV} {a13 : Option DV} {a14 : Option DV} {a15 : Option DV} {a16 : Option DV} {a17 : Option DV} {a18 : Option DV} {a19 : Option DV} {x : DV} {y : Option DV} {r : DSt} {K : DSt → Prop} : onSome (bind1 20 x (a0 :: a1 :: a2 :: a3 :: a4 :: a5 :: a6 :: a7 :: a8 :: a9 :: a10 :: a11 :: a12 :: a13 :: a14 :: a15 :: a16 :: a17 :: a18 :: a19 :: y :: r)) K = K (a0 :: a1 :: a2 :: a3 :: a4 :: a5 :: a6 :: a7 :: a8 :: a9 :: a10 :: a11 :: a12 :: a13 :: a14 :: a15 :: a16 :: a17 :: a18 :: a19 :: some x :: r) := rfl
theorem oslot_n20 {a0 : Option DV} {a1 : Option DV} {a2 : Option DV} {a3 : Option DV} {a4 : Option DV} {a5 : Option DV} {a6 : Option DV} {a7 : Option DV} {a8 : Option DV} {a9 : Option DV} {a10 : Option DV} {a11 : Option DV} {a12 : Option DV} {a13 : Option DV} {a14 : Option DV} {a15 : Option DV} {a16 : Option DV} {a17 : Option DV} {a18 : Option DV} {a19 : Option DV} {x : DV} {r : DSt} {K : DV → Prop} : onSome (slot (a0 :: a1 :: a2 :: a3 :: a4 :: a5 :: a6 :: a7 :: a8 :: a9 :: a10 :: a11 :: a12 :: a13 :: a14 :: a15 :: a16 :: a17 :: a18 :: a19 :: some x :: r) 20) K = K x := rfl
theorem dVar_n21 {a0 : Option DV} {a1 : Option DV} {a2 : Option DV} {a3 : Option DV} {a4 : Option DV} {a5 : Option DV} {a6 : Option DV} {a7 : Option DV} {a8 : Option DV} {a9 : Option DV} {a10 : Option DV} {a11 : Option DV} {a12 : Option DV} {a13 : Option DV} {a14 : Option DV} {a15 : Option DV} {a16 : Option DV} {a17 : Option DV} {a18 : Option DV} {a19 : Option DV} {a20 : Option DV} {x : DV} {r : DSt} {O : Own} {Q : DVK} : dVar 21 (a0 :: a1 :: a2 :: a3 :: a4 :: a5 :: a6 :: a7 :: a8 :: a9 :: a10 :: a11 :: a12 :: a13 :: a14 :: a15 :: a16 :: a17 :: a18 :: a19 :: a20 :: some x :: r) O Q = Q x O := rfl
theorem dgName_n21 {a0 : Option DV} {a1 : Option DV} {a2 : Option DV} {a3 : Option DV} {a4 : Option DV} {a5 : Option DV} {a6 : Option DV} {a7 : Option DV} {a8 : Option DV} {a9 : Option DV} {a10 : Option DV} {a11 : Option DV} {a12 : Option DV} {a13 : Option DV} {a14 : Option DV} {a15 : Option DV} {a16 : Option DV} {a17 : Option DV} {a18 : Option DV} {a19 : Option DV} {a20 : Option DV} {x : DV} {y : Option DV} {r : DSt} {O : Own} {Q : DSt → Own → Prop} : dgName 21 x (a0 :: a1 :: a2 :: a3 :: a4 :: a5 :: a6 :: a7 :: a8 :: a9 :: a10 :: a11 :: a12 :: a13 :: a14 :: a15 :: a16 :: a17 :: a18 :: a19 :: a20 :: y :: r) O Q = Q (a0 :: a1 :: a2 :: a3 :: a4 :: a5 :: a6 :: a7 :: a8 :: a9 :: a10 :: a11 :: a12 :: a13 :: a14 :: a15 :: a16 :: a17 :: a18 :: a19 :: a20 :: some x :: r) O := rfl
theorem obind_n21 {a0 : Option DV} {a1 : Option DV} {a2 : Option DV} {a3 : Option DV} {a4 : Option DV} {a5 : Option DV} {a6 : Option DV} {a7 : Option DV} {a8 : Option DV} {a9 : Option DV} {a10 : Option DV} {a11 : Option DV} {a12 : Option DV} {a13 : Option DV} {a14 : Option DV} {a15 : Option DV} {a16 : Option DV} {a17 : Option DV} {a18 : Option DV} {a19 : Option DV} {a20 : Option DV} {x : DV} {y : Option DV} {r : DSt} {K : DSt → Prop} : onSome (bind1 21 x (a0 :: a1 :: a2 :: a3 :: a4 :: a5 :: a6 :: a7 :: a8 :: a9 :: a10 :: a11 :: a12 :: a13 :: a14 :: a15 :: a16 :: a17 :: a18 :: a19 :: a20 :: y :: r)) K = K (a0 :: a1 :: a2 :: a3 :: a4 :: a5 :: a6 :: a7 :: a8 :: a9 :: a10 :: a11 :: a12 :: a13 :: a14 :: a15 :: a16 :: a17 :: a18 :: a19 :: a20 :: some x :: r) := rfl
theorem oslot_n21 {a0 : Option DV} {a1 : Option DV} {a2 : Option DV} {a3 : Option DV} {a4 : Option DV} {a5 : Option DV} {a6 : Option DV} {a7 : Option DV} {a8 : Option DV} {a9 : Option DV} {a10 : Option DV} {a11 : Option DV} {a12 : Option DV} {a13 : Option DV} {a14 : Option DV} {a15 : Option DV} {a16 : Option DV} {a17 : Option DV} {a18 : Option DV} {a19 : Option DV} {a20 : Option DV} {x : DV} {r : DSt} {K : DV → Prop} : onSome (slot (a0 :: a1 :: a2 :: a3 :: a4 :: a5 :: a6 :: a7 :: a8 :: a9 :: a10 :: a11 :: a12 :: a13 :: a14 :: a15 :: a16 :: a17 :: a18 :: a19 :: a20 :: some x :: r) 21) K = K x := rfl
theorem dVar_n22 {a0 : Option DV} {a1 : Option DV} {a2 : Option DV} {a3 : Option DV} {a4 : Option DV} {a5 : Option DV} {a6 : Option DV} {a7 : Option DV} {a8 : Option DV} {a9 : Option DV} {a10 : Option DV} {a11 : Option DV} {a12 : Option DV} {a13 : Option DV} {a14 : Option DV} {a15 : Option DV} {a16 : Option DV} {a17 : Option DV} {a18 : Option DV} {a19 : Option DV} {a20 : Option DV} {a21 : Option DV} {x : DV} {r : DSt} {O : Own} {Q : DVK} : dVar 22 (a0 :: a1 :: a2 :: a3 :: a4 :: a5 :: a6 :: a7 :: a8 :: a9 :: a10 :: a11 :: a12 :: a13 :: a14 :: a15 :: a16 :: a17 :: a18 :: a19 :: a20 :: a21 :: some x :: r) O Q = Q x O := rfl
theorem dgName_n22 {a0 : Option DV} {a1 : Option DV} {a2 : Option DV} {a3 : Option DV} {a4 : Option DV} {a5 : Option DV} {a6 : Option DV} {a7 : Option DV} {a8 : Option DV} {a9 : Option DV} {a10 : Option DV} {a11 : Option DV} {a12 : Option DV} {a13 : Option DV} {a14 : Option DV} {a15 : Option DV} {a16 : Option DV} {a17 : Option DV} {a18 : Option DV} {a19 : Option DV} {a20 : Option DV} {a21 : Option DV} {x : DV} {y : Option DV} {r : DSt} {O : Own} {Q : DSt → Own → Prop} : dgName 22 x (a0 :: a1 :: a2 :: a3 :: a4 :: a5 :: a6 :: a7 :: a8 :: a9 :: a10 :: a11 :: a12 :: a13 :: a14 :: a15 :: a16 :: a17 :: a18 :: a19 :: a20 :: a21 :: y :: r) O Q = Q (a0 :: a1 :: a2 :: a3 :: a4 :: a5 :: a6 :: a7 :: a8 :: a9 :: a10 :: a11 :: a12 :: a13 :: a14 :: a15 :: a16 :: a17 :: a18 :: a19 :: a20 :: a21 :: some x :: r) O := rfl
theorem obind_n22 {a0 : Option DV} {a1 : Option DV} {a2 : Option DV} {a3 : Option DV} {a4 : Option DV} {a5 : Option DV} {a6 : Option DV} {a7 : Option DV} {a8 : Option DV} {a9 : Option DV} {a10 : Option DV} {a11 : Option DV} {a12 : Option DV} {a13 : Option DV} {a14 : Option DV} {a15 : Option DV} {a16 : Option DV} {a17 : Option DV} {a18 : Option DV} {a19 : Option DV} {a20 : Option DV} {a21 : Option DV} {x : DV} {y : Option DV} {r : DSt} {K : DSt → Prop} : onSome (bind1 22 x (a0 :: a1 :: a2 :: a3 :: a4 :: a5 :: a6 :: a7 :: a8 :: a9 :: a10 :: a11 :: a12 :: a13 :: a14 :: a15 :: a16 :: a17 :: a18 :: a19 :: a20 :: a21 :: y :: r)) K = K (a0 :: a1 :: a2 :: a3 :: a4 :: a5 :: a6 :: a7 :: a8 :: a9 :: a10 :: a11 :: a12 :: a13 :: a14 :: a15 :: a16 :: a17 :: a18 :: a19 :: a20 :: a21 :: some x :: r) := rfl
theorem oslot_n22 {a0 : Option DV} {a1 : Option DV} {a2 : Option DV} {a3 : Option DV} {a4 : Option DV} {a5 : Option DV} {a6 : Option DV} {a7 : Option DV} {a8 : Option DV} {a9 : Option DV} {a10 : Option DV} {a11 : Option DV} {a12 : Option DV} {a13 : Option DV} {a14 : Option DV} {a15 : Option DV} {a16 : Option DV} {a17 : Option DV} {a18 : Option DV} {a19 : Option DV} {a20 : Option DV} {a21 : Option DV} {x : DV} {r : DSt} {K : DV → Prop} : onSome (slot (a0 :: a1 :: a2 :: a3 :: a4 :: a5 :: a6 :: a7 :: a8 :: a9 :: a10 :: a11 :: a12 :: a13 :: a14 :: a15 :: a16 :: a17 :: a18 :: a19 :: a20 :: a21 :: some x :: r) 22) K = K x := rfl
theorem dVar_n23 {a0 : Option DV} {a1 : Option DV} {a2 : Option DV} {a3 : Option DV} {a4 : Option DV} {a5 : Option DV} {a6 : Option DV} {a7 : Option DV} {a8 : Option DV} {a9 : Option DV} {a10 : Option DV} {a11 : Option DV} {a12 : Option DV} {a13 : Option DV} {a14 : Option DV} {a15 : Option DV} {a16 : Option DV} {a17 : Option DV} {a18 : Option DV} {a19 : Option DV} {a20 : Option DV} {a21 : Option DV} {a22 : Option DV} {x : DV} {r : DSt} {O : Own} {Q : DVK} : dVar 23 (a0 :: a1 :: a2 :: a3 :: a4 :: a5 :: a6 :: a7 :: a8 :: a9 :: a10 :: a11 :: a12 :: a13 :: a14 :: a15 :: a16 :: a17 :: a18 :: a19 :: a20 :: a21 :: a22 :: some x :: r) O Q = Q x O := rfl
theorem dgName_n23 {a0 : Option DV} {a1 : Option DV} {a2 : Option DV} {a3 : Option DV} {a4 : Option DV} {a5 : Option DV} {a6 : Option DV} {a7 : Option DV} {a8 : Option DV} {a9 : Option DV} {a10 : Option DV} {a11 : Option DV} {a12 : Option DV} {a13 : Option DV} {a14 : Option DV} {a15 : Option DV} {a16 : Option DV} {a17 : Option DV} {a18 : Option DV} {a19 : Option DV} {a20 : Option DV} {a21 : Option DV} {a22 : Option DV} {x : DV} {y : Option DV} {r : DSt} {O : Own} {Q : DSt → Own → Prop} : dgName 23 x (a0 :: a1 :: a2 :: a3 :: a4 :: a5 :: a6 :: a7 :: a8 :: a9 :: a10 :: a11 :: a12 :: a13 :: a14 :: a15 :: a16 :: a17 :: a18 :: a19 :: a20 :: a21 :: a22 :: y :: r) O Q = Q (a0 :: a1 :: a2 :: a3 :: a4 :: a5 :: a6 :: a7 :: a8 :: a9 :: a10 :: a11 :: a12 :: a13 :: a14 :: a15 :: a16 :: a17 :: a18 :: a19 :: a20 :: a21 :: a22 :: some x :: r) O := rfl
theorem obind_n23 {a0 : Option DV} {a1 : Option DV} {a2 : Option DV} {a3 : Option DV} {a4 : Option DV} {a5 : Option DV} {a6 : Option DV} {a7 : Option DV} {a8 : Option DV} {a9 : Option DV} {a10 : Option DV} {a11 : Option DV} {a12 : Option DV} {a13 : Option DV} {a14 : Option DV} {a15 : Option DV} {a16 : Option DV} {a17 : Option DV} {a18 : Option DV} {a19 : Option DV} {a20 : Option DV} {a21 : Option DV} {a22 : Option DV} {x : DV} {y : Option DV} {r : DSt} {K : DSt → Prop} : onSome (bind1 23 x (a0 :: a1 :: a2 :: a3 :: a4 :: a5 :: a6 :: a7 :: a8 :: a9 :: a10 :: a11 :: a12 :: a13 :: a14 :: a15 :: a16 :: a17 :: a18 :: a19 :: a20 :: a21 :: a22 :: y :: r)) K = K (a0 :: a1 :: a2 :: a3 :: a4 :: a5 :: a6 :: a7 :: a8 :: a9 :: a10 :: a11 :: a12 :: a13 :: a14 :: a15 :: a16 :: a17 :: a18 :: a19 :: a20 :: a21 :: a22 :: some x :: r) := rfl
theorem oslot_n23 {a0 : Option DV} {a1 : Option DV} {a2 : Option DV} {a3 : Option DV} {a4 : Option DV} {a5 : Option DV} {a6 : Option DV} {a7 : Option DV} {a8 : Option DV} {a9 : Option DV} {a10 : Option DV} {a11 : Option DV} {a12 : Option DV} {a13 : Option DV} {a14 : Option DV} {a15 : Option DV} {a16 : Option DV} {a17 : Option DV} {a18 : Option DV} {a19 : Option DV} {a20 : Option DV} {a21 : Option DV} {a22 : Option DV} {x : DV} {r : DSt} {K : DV → Prop} : onSome (slot (a0 :: a1 :: a2 :: a3 :: a4 :: a5 :: a6 :: a7 :: a8 :: a9 :: a10 :: a11 :: a12 :: a13 :: a14 :: a15 :: a16 :: a17 :: a18 :: a19 :: a20 :: a21 :: a22 :: some x :: r) 23) K = K x := rfl
theorem dVar_n24 {a0 : Option DV} {a1 : Option DV} {a2 : Option DV} {a3 : Option DV} {a4 : Option DV} {a5 : Option DV} {a6 : Option DV} {a7 : Option DV} {a8 : Option DV} {a9 : Option DV} {a10 : Option DV} {a11 : Option DV} {a12 : Option DV} {a13 : Option DV} {a14 : Option DV} {a15 : Option DV} {a16 : Option DV} {a17 : Option DV} {a18 : Option DV} {a19 : Option DV} {a20 : Option DV} {a21 : Option DV} {a22 : Option DV} {a23 : Option DV} {x : DV} {r : DSt} {O : Own} {Q : DVK} : dVar 24 (a0 :: a1 :: a2 :: a3 :: a4 :: a5 :: a6 :: a7 :: a8 :: a9 :: a10 :: a11 :: a12 :: a13 :: a14 :: a15 :: a16 :: a17 :: a18 :: a19 :: a20 :: a21 :: a22 :: a23 :: some x :: r) O Q = Q x O := rfl
theorem dgName_n24 {a0 : Option DV} {a1 : Option DV} {a2 : Option DV} {a3 : Option DV} {a4 : Option DV} {a5 : Option DV} {a6 : Option DV} {a7 : Option DV} {a8 : Option DV} {a9 : Option DV} {a10 : Option DV} {a11 : Option DV} {a12 : Option DV} {a13 : Option DV} {a14 : Option DV} {a15 : Option DV} {a16 : Option DV} {a17 : Option DV} {a18 : Option DV} {a19 : Option DV} {a20 : Option DV} {a21 : Option DV} {a22 : Option DV} {a23 : Option DV} {x : DV} {y : Option DV} {r : DSt} {O : Own} {Q : DSt → Own → Prop} : dgName 24 x (a0 :: a1 :: a2 :: a3 :: a4 :: a5 :: a6 :: a7 :: a8 :: a9 :: a10 :: a11 :: a12 :: a13 :: a14 :: a15 :: a16 :: a17 :: a18 :: a19 :: a20 :: a21 :: a22 :: a23 :: y :: r) O Q = Q (a0 :: a1 :: a2 :: a3 :: a4 :: a5 :: a6 :: a7 :: a8 :: a9 :: a10 :: a11 :: a12 :: a13 :: a14 :: a15 :: a16 :: a17 :: a18 :: a19 :: a20 :: a21 :: a22 :: a23 :: some x :: r) O := rfl
theorem obind_n24 {a0 : Option DV} {a1 : Option DV} {a2 : Option DV} {a3 : Option DV} {a4 : Option DV} {a5 : Option DV} {a6 : Option DV} {a7 : Option DV} {a8 : Option DV} {a9 : Option DV} {a10 : Option DV} {a11 : Option DV} {a12 : Option DV} {a13 : Option DV} {a14 : Option DV} {a15 : Option DV} {a16 : Option DV} {a17 : Option DV} {a18 : Option DV} {a19 : Option DV} {a20 : Option DV} {a21 : Option DV} {a22 : Option DV} {a23 : Option DV} {x : DV} {y : Option DV} {r : DSt} {K : DSt → Prop} : onSome (bind1 24 x (a0 :: a1 :: a2 :: a3 :: a4 :: a5 :: a6 :: a7 :: a8 :: a9 :: a10 :: a11 :: a12 :: a13 :: a14 :: a15 :: a16 :: a17 :: a18 :: a19 :: a20 :: a21 :: a22 :: a23 :: y :: r)) K = K (a0 :: a1 :: a2 :: a3 :: a4 :: a5 :: a6 :: a7 :: a8 :: a9 :: a10 :: a11 :: a12 :: a13 :: a14 :: a15 :: a16 :: a17 :: a18 :: a19 :: a20 :: a21 :: a22 :: a23 :: some x :: r) := rfl
theorem oslot_n24 {a0 : Option DV} {a1 : Option DV} {a2 : Option DV} {a3 : Option DV} {a4 : Option DV} {a5 : Option DV} {a6 : Option DV} {a7 : Option DV} {a8 : Option DV} {a9 : Option DV} {a10 : Option DV} {a11 : Option DV} {a12 : Option DV} {a13 : Option DV} {a14 : Option DV} {a15 : Option DV} {a16 : Option DV} {a17 : Option DV} {a18 : Option DV} {a19 : Option DV} {a20 : Option DV} {a21 : Option DV} {a22 : Option DV} {a23 : Option DV} {x : DV} {r : DSt} {K : DV → Prop} : onSome (slot (a0 :: a1 :: a2 :: a3 :: a4 :: a5 :: a6 :: a7 :: a8 :: a9 :: a10 :: a11 :: a12 :: a13 :: a14 :: a15 :: a16 :: a17 :: a18 :: a19 :: a20 :: a21 :: a22 :: a23 :: some x :: r) 24) K = K x := rfl
theorem dVar_n25 {a0 : Option DV} {a1 : Option DV} {a2 : Option DV} {a3 : Option DV} {a4 : Option DV} {a5 : Option DV} {a6 : Option DV} {a7 : Option DV} {a8 : Option DV} {a9 : Option DV} {a10 : Option DV} {a11 : Option DV} {a12 : Option DV} {a13 : Option DV} {a14 : Option DV} {a15 : Option DV} {a16 : Option DV} {a17 : Option DV} {a18 : Option DV} {a19 : Option DV} {a20 : Option DV} {a21 : Option DV} {a22 : Option DV} {a23 : Option DV} {a24 : Option DV} {x : DV} {r : DSt} {O : Own} {Q : DVK} : dVar 25 (a0 :: a1 :: a2 :: a3 :: a4 :: a5 :: a6 :: a7 :: a8 :: a9 :: a10 :: a11 :: a12 :: a13 :: a14 :: a15 :: a16 :: a17 :: a18 :: a19 :: a20 :: a21 :: a22 :: a23 :: a24 :: some x :: r) O Q = Q x O := rfl
theorem dgName_n25 {a0 : Option DV} {a1 : Option DV} {a2 : Option DV} {a3 : Option DV} {a4 : Option DV} {a5 : Option DV} {a6 : Option DV} {a7 : Option DV} {a8 : Option DV} {a9 : Option DV} {a10 : Option DV} {a11 : Option DV} {a12 : Option DV} {a13 : Option DV} {a14 : Option DV} {a15 : Option DV} {a16 : Option DV} {a17 : Option DV} {a18 : Option DV} {a19 : Option DV} {a20 : Option DV} {a21 : Option DV} {a22 : Option DV} {a23 : Option DV} {a24 : Option DV} {x : DV} {y : Option DV} {r : DSt} {O : Own} {Q : DSt → Own → Prop} : dgName 25 x (a0 :: a1 :: a2 :: a3 :: a4 :: a5 :: a6 :: a7 :: a8 :: a9 :: a10 :: a11 :: a12 :: a13 :: a14 :: a15 :: a16 :: a17 :: a18 :: a19 :: a20 :: a21 :: a22 :: a23 :: a24 :: y :: r) O Q = Q (a0 :: a1 :: a2 :: a3 :: a4 :: a5 :: a6 :: a7 :: a8 :: a9 :: a10 :: a11 :: a12 :: a13 :: a14 :: a15 :: a16 :: a17 :: a18 :: a19 :: a20 :: a21 :: a22 :: a23 :: a24 :: some x :: r) O := rfl
theorem obind_n25 {a0 : Option DV} {a1 : Option DV} {a2 : Option DV} {a3 : Option DV} {a4 : Option DV} {a5 : Option DV} {a6 : Option DV} {a7 : Option DV} {a8 : Option DV} {a9 : Option DV} {a10 : Option DV} {a11 : Option DV} {a12 : Option DV} {a13 : Option DV} {a14 : Option DV} {a15 : Option DV} {a16 : Option DV} {a17 : Option DV} {a18 : Option DV} {a19 : Option DV} {a20 : Option DV} {a21 : Option DV} {a22 : Option DV} {a23 : Option DV} {a24 : Option DV} {x : DV} {y : Option DV} {r : DSt} {K : DSt → Prop} : onSome (bind1 25 x (a0 :: a1 :: a2 :: a3 :: a4 :: a5 :: a6 :: a7 :: a8 :: a9 :: a10 :: a11 :: a12 :: a13 :: a14 :: a15 :: a16 :: a17 :: a18 :: a19 :: a20 :: a21 :: a22 :: a23 :: a24 :: y :: r)) K = K (a0 :: a1 :: a2 :: a3 :: a4 :: a5 :: a6 :: a7 :: a8 :: a9 :: a10 :: a11 :: a12 :: a13 :: a14 :: a15 :: a16 :: a17 :: a18 :: a19 :: a20 :: a21 :: a22 :: a23 :: a24 :: some x :: r) := rfl
theorem oslot_n25 {a0 : Option DV} {a1 : Option DV} {a2 : Option DV} {a3 : Option DV} {a4 : Option DV} {a5 : Option DV} {a6 : Option DV} {a7 : Option DV} {a8 : Option DV} {a9 : Option DV} {a10 : Option DV} {a11 : Option DV} {a12 : Option DV} {a13 : Option DV} {a14 : Option DV} {a15 : Option DV} {a16 : Option DV} {a17 : Option DV} {a18 : Option DV} {a19 : Option DV} {a20 : Option DV} {a21 : Option DV} {a22 : Option DV} {a23 : Option DV} {a24 : Option DV} {x : DV} {r : DSt} {K : DV → Prop} : onSome (slot (a0 :: a1 :: a2 :: a3 :: a4 :: a5 :: a6 :: a7 :: a8 :: a9 :: a10 :: a11 :: a12 :: a13 :: a14 :: a15 :: a16 :: a17 :: a18 :: a19 :: a20 :: a21 :: a22 :: a23 :: a24 :: some x :: r) 25) K = K x := rfl
theorem dVar_n26 {a0 : Option DV} {a1 : Option DV} {a2 : Option DV} {a3 : Option DV} {a4 : Option DV} {a5 : Option DV} {a6 : Option DV} {a7 : Option DV} {a8 : Option DV} {a9 : Option DV} {a10 : Option DV} {a11 : Option DV} {a12 : Option DV} {a13 : Option DV} {a14 : Option DV} {a15 : Option DV} {a16 : Option DV} {a17 : Option DV} {a18 : Option DV} {a19 : Option DV} {a20 : Option DV} {a21 : Option DV} {a22 : Option DV} {a23 : Option DV} {a24 : Option DV} {a25 : Option DV} {x : DV} {r : DSt} {O : Own} {Q : DVK} : dVar 26 (a0 :: a1 :: a2 :: a3 :: a4 :: a5 :: a6 :: a7 :: a8 :: a9 :: a10 :: a11 :: a12 :: a13 :: a14 :: a15 :: a16 :: a17 :: a18 :: a19 :: a20 :: a21 :: a22 :: a23 :: a24 :: a25 :: some x :: r) O Q = Q x O := rfl
theorem dgName_n26 {a0 : Option DV} {a1 : Option DV} {a2 : Option DV} {a3 : Option DV} {a4 : Option DV} {a5 : Option DV} {a6 : Option DV} {a7 : Option DV} {a8 : Option DV} {a9 : Option DV} {a10 : Option DV} {a11 : Option DV} {a12 : Option DV} {a13 : Option DV} {a14 : Option DV} {a15 : Option DV} {a16 : Option DV} {a17 : Option DV} {a18 : Option DV} {a19 : Option DV} {a20 : Option DV} {a21 : Option DV} {a22 : Option DV} {a23 : Option DV} {a24 : Option DV} {a25 : Option DV} {x : DV} {y : Option DV} {r : DSt} {O : Own} {Q : DSt → Own → Prop} : dgName 26 x (a0 :: a1 :: a2 :: a3 :: a4 :: a5 :: a6 :: a7 :: a8 :: a9 :: a10 :: a11 :: a12 :: a13 :: a14 :: a15 :: a16 :: a17 :: a18 :: a19 :: a20 :: a21 :: a22 :: a23 :: a24 :: a25 :: y :: r) O Q = Q (a0 :: a1 :: a2 :: a3 :: a4 :: a5 :: a6 :: a7 :: a8 :: a9 :: a10 :: a11 :: a12 :: a13 :: a14 :: a15 :: a16 :: a17 :: a18 :: a19 :: a20 :: a21 :: a22 :: a23 :: a24 :: a25 :: some x :: r) O := rfl
theorem obind_n26 {a0 : Option DV} {a1 : Option DV} {a2 : Option DV} {a3 : Option DV} {a4 : Option DV} {a5 : Option DV} {a6 : Option DV} {a7 : Option DV} {a8 : Option DV} {a9 : Option DV} {a10 : Option DV} {a11 : Option DV} {a12 : Option DV} {a13 : Option DV} {a14 : Option DV} {a15 : Option DV} {a16 : Option DV} {a17 : Option DV} {a18 : Option DV} {a19 : Option DV} {a20 : Option DV} {a21 : Option DV} {a22 : Option DV} {a23 : Option DV} {a24 : Option DV} {a25 : Option DV} {x : DV} {y : Option DV} {r : DSt} {K : DSt → Prop} : onSome (bind1 26 x (a0 :: a1 :: a2 :: a3 :: a4 :: a5 :: a6 :: a7 :: a8 :: a9 :: a10 :: a11 :: a12 :: a13 :: a14 :: a15 :: a16 :: a17 :: a18 :: a19 :: a20 :: a21 :: a22 :: a23 :: a24 :: a25 :: y :: r)) K = K (a0 :: a1 :: a2 :: a3 :: a4 :: a5 :: a6 :: a7 :: a8 :: a9 :: a10 :: a11 :: a12 :: a13 :: a14 :: a15 :: a16 :: a17 :: a18 :: a19 :: a20 :: a21 :: a22 :: a23 :: a24 :: a25 :: some x :: r) := rfl
theorem oslot_n26 {a0 : Option DV} {a1 : Option DV} {a2 : Option DV} {a3 : Option DV} {a4 : Option DV} {a5 : Option DV} {a6 : Option DV} {a7 : Option DV} {a8 : Option DV} {a9 : Option DV} {a10 : Option DV} {a11 : Option DV} {a12 : Option DV} {a13 : Option DV} {a14 : Option DV} {a15 : Option DV} {a16 : Option DV} {a17 : Option DV} {a18 : Option DV} {a19 : Option DV} {a20 : Option DV} {a21 : Option DV} {a22 : Option DV} {a23 : Option DV} {a24 : Option DV} {a25 : Option DV} {x : DV} {r : DSt} {K : DV → Prop} : onSome (slot (a0 :: a1 :: a2 :: a3 :: a4 :: a5 :: a6 :: a7 :: a8 :: a9 :: a10 :: a11 :: a12 :: a13 :: a14 :: a15 :: a16 :: a17 :: a18 :: a19 :: a20 :: a21 :: a22 :: a23 :: a24 :: a25 :: some x :: r) 26) K = K x := rfl
theorem dVar_n27 {a0 : Option DV} {a1 : Option DV} {a2 : Option DV} {a3 : Option DV} {a4 : Option DV} {a5 : Option DV} {a6 : Option DV} {a7 : Option DV} {a8 : Option DV} {a9 : Option DV} {a10 : Option DV} {a11 : Option DV} {a12 : Option DV} {a13 : Option DV} {a14 : Option DV} {a15 : Option DV} {a16 : Option DV} {a17 : Option DV} {a18 : Option DV} {a19 : Option DV} {a20 : Option DV} {a21 : Option DV} {a22 : Option DV} {a23 : Option DV} {a24 : Option DV} {a25 : Option DV} {a26 : Option DV} {x : DV} {r : DSt} {O : Own} {Q : DVK} : dVar 27 (a0 :: a1 :: a2 :: a3 :: a4 :: a5 :: a6 :: a7 :: a8 :: a9 :: a10 :: a11 :: a12 :: a13 :: a14 :: a15 :: a16 :: a17 :: a18 :: a19 :: a20 :: a21 :: a22 :: a23 :: a24 :: a25 :: a26 :: some x :: r) O Q = Q x O := rfl
theorem dgName_n27 {a0 : Option DV} {a1 : Option DV} {a2 : Option DV} {a3 : Option DV} {a4 : Option DV} {a5 : Option DV} {a6 : Option DV} {a7 : Option DV} {a8 : Option DV} {a9 : Option DV} {a10 : Option DV} {a11 : Option DV} {a12 : Option DV} {a13 : Option DV} {a14 : Option DV} {a15 : Option DV} {a16 : Option DV} {a17 : Option DV} {a18 : Option DV} {a19 : Option DV} {a20 : Option DV} {a21 : Option DV} {a22 : Option DV} {a23 : Option DV} {a24 : Option DV} {a25 : Option DV} {a26 : Option DV} {x : DV} {y : Option DV} {r : DSt} {O : Own} {Q : DSt → Own → Prop} : dgName 27 x (a0 :: a1 :: a2 :: a3 :: a4 :: a5 :: a6 :: a7 :: a8 :: a9 :: a10 :: a11 :: a12 :: a13 :: a14 :: a15 :: a16 :: a17 :: a18 :: a19 :: a20 :: a21 :: a22 :: a23 :: a24 :: a25 :: a26 :: y :: r) O Q = Q (a0 :: a1 :: a2 :: a3 :: a4 :: a5 :: a6 :: a7 :: a8 :: a9 :: a10 :: a11 :: a12 :: a13 :: a14 :: a15 :: a16 :: a17 :: a18 :: a19 :: a20 :: a21 :: a22 :: a23 :: a24 :: a25 :: a26 :: some x :: r) O := rfl
theorem obind_n27 {a0 : Option DV} {a1 : Option DV} {a2 : Option DV} {a3 : Option DV} {a4 : Option DV} {a5 : Option DV} {a6 : Option DV} {a7 : Option DV} {a8 : Option DV} {a9 : Option DV} {a10 : Option DV} {a11 : Option DV} {a12 : Option DV} {a13 : Option DV} {a14 : Option DV} {a15 : Option DV} {a16 : Option DV} {a17 : Option DV} {a18 : Option DV} {a19 : Option DV} {a20 : Option DV} {a21 : Option DV} {a22 : Option DV} {a23 : Option DV} {a24 : Option DV} {a25 : Option DV} {a26 : Option DV} {x : DV} {y : Option DV} {r : DSt} {K : DSt → Prop} : onSome (bind1 27 x (a0 :: a1 :: a2 :: a3 :: a4 :: a5 :: a6 :: a7 :: a8 :: a9 :: a10 :: a11 :: a12 :: a13 :: a14 :: a15 :: a16 :: a17 :: a18 :: a19 :: a20 :: a21 :: a22 :: a23 :: a24 :: a25 :: a26 :: y :: r)) K = K (a0 :: a1 :: a2 :: a3 :: a4 :: a5 :: a6 :: a7 :: a8 :: a9 :: a10 :: a11 :: a12 :: a13 :: a14 :: a15 :: a16 :: a17 :: a18 :: a19 :: a20 :: a21 :: a22 :: a23 :: a24 :: a25 :: a26 :: some x :: r) := rfl
theorem oslot_n27 {a0 : Option DV} {a1 : Option DV} {a2 : Option DV} {a3 : Option DV} {a4 : Option DV} {a5 : Option DV} {a6 : Option DV} {a7 : Option DV} {a8 : Option DV} {a9 : Option DV} {a10 : Option DV} {a11 : Option DV} {a12 : Option DV} {a13 : Option DV} {a14 : Option DV} {a15 : Option DV} {a16 : Option DV} {a17 : Option DV} {a18 : Option DV} {a19 : Option DV} {a20 : Option DV} {a21 : Option DV} {a22 : Option DV} {a23 : Option DV} {a24 : Option DV} {a25 : Option DV} {a26 : Option DV} {x : DV} {r : DSt} {K : DV → Prop} : onSome (slot (a0 :: a1 :: a2 :: a3 :: a4 :: a5 :: a6 :: a7 :: a8 :: a9 :: a10 :: a11 :: a12 :: a13 :: a14 :: a15 :: a16 :: a17 :: a18 :: a19 :: a20 :: a21 :: a22 :: a23 :: a24 :: a25 :: a26 :: some x :: r) 27) K = K x := rfl
theorem dVar_n28 {a0 : Option DV} {a1 : Option DV} {a2 : Option DV} {a3 : Option DV} {a4 : Option DV} {a5 : Option DV} {a6 : Option DV} {a7 : Option DV} {a8 : Option DV} {a9 : Option DV} {a10 : Option DV} {a11 : Option DV} {a12 : Option DV} {a13 : Option DV} {a14 : Option DV} {a15 : Option DV} {a16 : Option DV} {a17 : Option DV} {a18 : Option DV} {a19 : Option DV} {a20 : Option DV} {a21 : Option DV} {a22 : Option DV} {a23 : Option DV} {a24 : Option DV} {a25 : Option DV} {a26 : Option DV} {a27 : Option DV} {x : DV} {r : DSt} {O : Own} {Q : DVK} : dVar 28 (a0 :: a1 :: a2 :: a3 :: a4 :: a5 :: a6 :: a7 :: a8 :: a9 :: a10 :: a11 :: a12 :: a13 :: a14 :: a15 :: a16 :: a17 :: a18 :: a19 :: a20 :: a21 :: a22 :: a23 :: a24 :: a25 :: a26 :: a27 :: some x :: r) O Q = Q x O := rfl
theorem dgName_n28 {a0 : Option DV} {a1 : Option DV} {a2 : Option DV} {a3 : Option DV} {a4 : Option DV} {a5 : Option DV} {a6 : Option DV} {a7 : Option DV} {a8 : Option DV} {a9 : Option DV} {a10 : Option DV} {a11 : Option DV} {a12 : Option DV} {a13 : Option DV} {a14 : Option DV} {a15 : Option DV} {a16 : Option DV} {a17 : Option DV} {a18 : Option DV} {a19 : Option DV} {a20 : Option DV} {a21 : Option DV} {a22 : Option DV} {a23 : Option DV} {a24 : Option DV} {a25 : Option DV} {a26 : Option DV} {a27 : Option DV} {x : DV} {y : Option DV} {r : DSt} {O : Own} {Q : DSt → Own → Prop} : dgName 28 x (a0 :: a1 :: a2 :: a3 :: a4 :: a5 :: a6 :: a7 :: a8 :: a9 :: a10 :: a11 :: a12 :: a13 :: a14 :: a15 :: a16 :: a17 :: a18 :: a19 :: a20 :: a21 :: a22 :: a23 :: a24 :: a25 :: a26 :: a27 :: y :: r) O Q = Q (a0 :: a1 :: a2 :: a3 :: a4 :: a5 :: a6 :: a7 :: a8 :: a9 :: a10 :: a11 :: a12 :: a13 :: a14 :: a15 :: a16 :: a17 :: a18 :: a19 :: a20 :: a21 :: a22 :: a23 :: a24 :: a25 :: a26 :: a27 :: some x :: r) O := rfl
theorem obind_n28 {a0 : Option DV} {a1 : Option DV} {a2 : Option DV} {a3 : Option DV} {a4 : Option DV} {a5 : Option DV} {a6 : Option DV} {a7 : Option DV} {a8 : Option DV} {a9 : Option DV} {a10 : Option DV} {a11 : Option DV} {a12 : Option DV} {a13 : Option DV} {a14 : Option DV} {a15 : Option DV} {a16 : Option DV} {a17 : Option DV} {a18 : Option DV} {a19 : Option DV} {a20 : Option DV} {a21 : Option DV} {a22 : Option DV} {a23 : Option DV} {a24 : Option DV} {a25 : Option DV} {a26 : Option DV} {a27 : Option DV} {x : DV} {y : Option DV} {r : DSt} {K : DSt → Prop} : onSome (bind1 28 x (a0 :: a1 :: a2 :: a3 :: a4 :: a5 :: a6 :: a7 :: a8 :: a9 :: a10 :: a11 :: a12 :: a13 :: a14 :: a15 :: a16 :: a17 :: a18 :: a19 :: a20 :: a21 :: a22 :: a23 :: a24 :: a25 :: a26 :: a27 :: y :: r)) K = K (a0 :: a1 :: a2 :: a3 :: a4 :: a5 :: a6 :: a7 :: a8 :: a9 :: a10 :: a11 :: a12 :: a13 :: a14 :: a15 :: a16 :: a17 :: a18 :: a19 :: a20 :: a21 :: a22 :: a23 :: a24 :: a25 :: a26 :: a27 :: some x :: r) := rfl
theorem oslot_n28 {a0 : Option DV} {a1 : Option DV} {a2 : Option DV} {a3 : Option DV} {a4 : Option DV} {a5 : Option DV} {a6 : Option DV} {a7 : Option DV} {a8 : Option DV} {a9 : Option DV} {a10 : Option DV} {a11 : Option DV} {a12 : Option DV} {a13 : Option DV} {a14 : Option DV} {a15 : Option DV} {a16 : Option DV} {a17 : Option DV} {a18 : Option DV} {a19 : Option DV} {a20 : Option DV} {a21 : Option DV} {a22 : Option DV} {a23 : Option DV} {a24 : Option DV} {a25 : Option DV} {a26 : Option DV} {a27 : Option DV} {x : DV} {r : DSt} {K : DV → Prop} : onSome (slot (a0 :: a1 :: a2 :: a3 :: a4 :: a5 :: a6 :: a7 :: a8 :: a9 :: a10 :: a11 :: a12 :: a13 :: a14 :: a15 :: a16 :: a17 :: a18 :: a19 :: a20 :: a21 :: a22 :: a23 :: a24 :: a25 :: a26 :: a27 :: some x :: r) 28) K = K x := rfl
theorem dVar_n29 {a0 : Option DV} {a1 : Option DV} {a2 : Option DV} {a3 : Option DV} {a4 : Option DV} {a5 : Option DV} {a6 : Option DV} {a7 : Option DV} {a8 : Option DV} {a9 : Option DV} {a10 : Option DV} {a11 : Option DV} {a12 : Option DV} {a13 : Option DV} {a14 : Option DV} {a15 : Option DV} {a16 : Option DV} {a17 : Option DV} {a18 : Option DV} {a19 : Option DV} {a20 : Option DV} {a21 : Option DV} {a22 : Option DV} {a23 : Option DV} {a24 : Option DV} {a25 : Option DV} {a26 : Option DV} {a27 : Option DV} {a28 : Option DV} {x : DV} {r : DSt} {O : Own} {Q : DVK} : dVar 29 (a0 :: a1 :: a2 :: a3 :: a4 :: a5 :: a6 :: a7 :: a8 :: a9 :: a10 :: a11 :: a12 :: a13 :: a14 :: a15 :: a16 :: a17 :: a18 :: a19 :: a20 :: a21 :: a22 :: a23 :: a24 :: a25 :: a26 :: a27 :: a28 :: some x :: r) O Q = Q x O := rfl
theorem dgName_n29 {a0 : Option DV} {a1 : Option DV} {a2 : Option DV} {a3 : Option DV} {a4 : Option DV} {a5 : Option DV} {a6 : Option DV} {a7 : Option DV} {a8 : Option DV} {a9 : Option DV} {a10 : Option DV} {a11 : Option DV} {a12 : Option DV} {a13 : Option DV} {a14 : Option DV} {a15 : Option DV} {a16 : Option DV} {a17 : Option DV} {a18 : Option DV} {a19 : Option DV} {a20 : Option DV} {a21 : Option DV} {a22 : Option DV} {a23 : Option DV} {a24 : Option DV} {a25 : Option DV} {a26 : Option DV} {a27 : Option DV} {a28 : Option DV} {x : DV} {y : Option DV} {r : DSt} {O : Own} {Q : DSt → Own → Prop} : dgName 29 x (a0 :: a1 :: a2 :: a3 :: a4 :: a5 :: a6 :: a7 :: a8 :: a9 :: a10 :: a11 :: a12 :: a13 :: a14 :: a15 :: a16 :: a17 :: a18 :: a19 :: a20 :: a21 :: a22 :: a23 :: a24 :: a25 :: a26 :: a27 :: a28 :: y :: r) O Q = Q (a0 :: a1 :: a2 :: a3 :: a4 :: a5 :: a6 :: a7 :: a8 :: a9 :: a10 :: a11 :: a12 :: a13 :: a14 :: a15 :: a16 :: a17 :: a18 :: a19 :: a20 :: a21 :: a22 :: a23 :: a24 :: a25 :: a26 :: a27 :: a28 :: some x :: r) O := rfl
theorem obind_n29 {a0 : Option DV} {a1 : Option DV} {a2 : Option DV} {a3 : Option DV} {a4 : Option DV} {a5 : Option DV} {a6 : Option DV} {a7 : Option DV} {a8 : Option DV} {a9 : Option DV} {a10 : Option DV} {a11 : Option DV} {a12 : Option DV} {a13 : Option DV} {a14 : Option DV} {a15 : Option DV} {a16 : Option DV} {a17 : Option DV} {a18 : Option DV} {a19 : Option DV} {a20 : Option DV} {a21 : Option DV} {a22 : Option DV} {a23 : Option DV} {a24 : Option DV} {a25 : Option DV} {a26 : Option DV} {a27 : Option DV} {a28 : Option DV} {x : DV} {y : Option DV} {r : DSt} {K : DSt → Prop} : onSome (bind1 29 x (a0 :: a1 :: a2 :: a3 :: a4 :: a5 :: a6 :: a7 :: a8 :: a9 :: a10 :: a11 :: a12 :: a13 :: a14 :: a15 :: a16 :: a17 :: a18 :: a19 :: a20 :: a21 :: a22 :: a23 :: a24 :: a25 :: a26 :: a27 :: a28 :: y :: r)) K = K (a0 :: a1 :: a2 :: a3 :: a4 :: a5 :: a6 :: a7 :: a8 :: a9 :: a10 :: a11 :: a12 :: a13 :: a14 :: a15 :: a16 :: a17 :: a18 :: a19 :: a20 :: a21 :: a22 :: a23 :: a24 :: a25 :: a26 :: a27 :: a28 :: some x :: r) := rfl
theorem oslot_n29 {a0 : Option DV} {a1 : Option DV} {a2 : Option DV} {a3 : Option DV} {a4 : Option DV} {a5 : Option DV} {a6 : Option DV} {a7 : Option DV} {a8 : Option DV} {a9 : Option DV} {a10 : Option DV} {a11 : Option DV} {a12 : Option DV} {a13 : Option DV} {a14 : Option DV} {a15 : Option DV} {a16 : Option DV} {a17 : Option DV} {a18 : Option DV} {a19 : Option DV} {a20 : Option DV} {a21 : Option DV} {a22 : Option DV} {a23 : Option DV} {a24 : Option DV} {a25 : Option DV} {a26 : Option DV} {a27 : Option DV} {a28 : Option DV} {x : DV} {r : DSt} {K : DV → Prop} : onSome (slot (a0 :: a1 :: a2 :: a3 :: a4 :: a5 :: a6 :: a7 :: a8 :: a9 :: a10 :: a11 :: a12 :: a13 :: a14 :: a15 :: a16 :: a17 :: a18 :: a19 :: a20 :: a21 :: a22 :: a23 :: a24 :: a25 :: a26 :: a27 :: a28 :: some x :: r) 29) K = K x := rfl
theorem isiM_int : ("int" ∈ ["int", "str", "bool", "list", "tuple", "dict"]) = True := by decide
theorem subTy_NoneType_int : subTy "NoneType" "int" = false := rfl
theorem subTy_bool_int : subTy "bool" "int" = true := rfl
theorem subTy_int_int : subTy "int" "int" = true := rfl
theorem subTy_str_int : subTy "str" "int" = false := rfl
theorem subTy_tuple_int : subTy "tuple" "int" = false := rfl
theorem subTy_list_int : subTy "list" "int" = false := rfl
theorem subTy_dict_int : subTy "dict" "int" = false := rfl
theorem isiM_str : ("str" ∈ ["int", "str", "bool", "list", "tuple", "dict"]) = True := by decide
theorem subTy_NoneType_str : subTy "NoneType" "str" = false := rfl
theorem subTy_bool_str : subTy "bool" "str" = false := rfl
theorem subTy_int_str : subTy "int" "str" = false := rfl
theorem subTy_str_str : subTy "str" "str" = true := rfl
theorem subTy_tuple_str : subTy "tuple" "str" = false := rfl
theorem subTy_list_str : subTy "list" "str" = false := rfl
theorem subTy_dict_str : subTy "dict" "str" = false := rfl
theorem isiM_bool : ("bool" ∈ ["int", "str", "bool", "list", "tuple", "dict"]) = True := by decide
theorem subTy_NoneType_bool : subTy "NoneType" "bool" = false := rfl
theorem subTy_bool_bool : subTy "bool" "bool" = true := rfl
theorem subTy_int_bool : subTy "int" "bool" = false := rfl
theorem subTy_str_bool : subTy "str" "bool" = false := rfl
theorem subTy_tuple_bool : subTy "tuple" "bool" = false := rfl
theorem subTy_list_bool : subTy "list" "bool" = false := rfl
theorem subTy_dict_bool : subTy "dict" "bool" = false := rfl
theorem isiM_list : ("list" ∈ ["int", "str", "bool", "list", "tuple", "dict"]) = True := by decide
theorem subTy_NoneType_list : subTy "NoneType" "list" = false := rfl
theorem subTy_bool_list : subTy "bool" "list" = false := rfl
theorem subTy_int_list : subTy "int" "list" = false := rfl
theorem subTy_str_list : subTy "str" "list" = false := rfl
theorem subTy_tuple_list : subTy "tuple" "list" = false := rfl
theorem subTy_list_list : subTy "list" "list" = true := rfl
theorem subTy_dict_list : subTy "dict" "list" = false := rfl
theorem isiM_tuple : ("tuple" ∈ ["int", "str", "bool", "list", "tuple", "dict"]) = True := by decide
theorem subTy_NoneType_tuple : subTy "NoneType" "tuple" = false := rfl
theorem subTy_bool_tuple : subTy "bool" "tuple" = false := rfl
theorem subTy_int_tuple : subTy "int" "tuple" = false := rfl
theorem subTy_str_tuple : subTy "str" "tuple" = false := rfl
theorem subTy_tuple_tuple : subTy "tuple" "tuple" = true := rfl
theorem subTy_list_tuple : subTy "list" "tuple" = false := rfl
theorem subTy_dict_tuple : subTy "dict" "tuple" = false := rfl
theorem isiM_dict : ("dict" ∈ ["int", "str", "bool", "list", "tuple", "dict"]) = True := by decide
theorem subTy_NoneType_dict : subTy "NoneType" "dict" = false := rfl
theorem subTy_bool_dict : subTy "bool" "dict" = false := rfl
theorem subTy_int_dict : subTy "int" "dict" = false := rfl
theorem subTy_str_dict : subTy "str" "dict" = false := rfl
theorem subTy_tuple_dict : subTy "tuple" "dict" = false := rfl
theorem subTy_list_dict : subTy "list" "dict" = false := rfl
theorem subTy_dict_dict : subTy "dict" "dict" = true := rfl
theorem isNon_tup {xs : _} : isNon (.tup xs) = false := rfl
theorem isNon_lst {xs : _} : isNon (.lst xs) = false := rfl
theorem isNon_stup {xs : _} : isNon (.stup xs) = false := rfl
theorem isNon_slst {xs : _} : isNon (.slst xs) = false := rfl
theorem isNon_str {xs : _} : isNon (.str xs) = false := rfl
theorem isNon_int {xs : _} : isNon (.int xs) = false := rfl
theorem isNon_bl {xs : _} : isNon (.bl xs) = false := rfl
theorem isNon_ref {xs : _} : isNon (.ref xs) = false := rfl
theorem isNon_dK {xs : _} : isNon (.dK xs) = false := rfl
theorem isNon_dT {xs : _} : isNon (.dT xs) = false := rfl
end DL
set_option Elab.async false
set_option linter.all false
set_option maxRecDepth 100000
namespace DL
open PySem PySem.Spec PyProof.Rows L2 TL
variable {XW : DXK}
def dAddO (x y : DV) (O : Own) (Q : DVK) : Prop := lstQ O x fun xs => lstQ O y fun ys => xs.length + ys.length ≤ sizeLine ∧ ∀ p, O p = none → Q (.ref p) (oset O p (.lst (xs ++ ys)))
theorem forW_inv {g : DTG} {tb : DTS} {D : DEnds} (I : Nat → DSt → Own → Prop) {ds : List DV} {S : DSt} {O : Own} (h0 : I 0 S O)
    (step : ∀ (i : Nat) (S : DSt) (O : Own) (d : DV) (nx : DSt → Own → Prop), ds[i]? = some d → I i S O → (∀ S' O', I (i + 1) S' O' → nx S' O') → g d S O fun S2 O2 => tb { D with nx := nx, ct := nx, bk := D.nx } S2 O2)
    (done : ∀ S O, I ds.length S O → D.nx S O) : forW g tb D ds S O :=
  forW_by (α := DSt × Own) (fun x => x.1) (fun x => x.2) ds (fun i x => I i x.1 x.2) (fun i x d nx e h hn => step i x.1 x.2 d nx e h fun S' O' h' => hn (S', O') h') (fun x h => done x.1 x.2 h) (S, O) rfl rfl h0
theorem lcW_filtM {α : Type} {ow : Bool} {b : DV → DSt → Option DSt} {tt : DTT} {te : DTE} {S : DSt} {Q : DVK} {O : Own} (f g : α → DV) (p : α → Bool) : ∀ (ks : List α) (acc : List DV),
    (∀ k ∈ ks, ∀ K : Bool → Own → Prop, K (p k) O → onSome (b (f k) S) fun S2 => tt S2 O K) → (∀ k ∈ ks, p k = true → ∀ K : DVK, K (g k) O → onSome (b (f k) S) fun S2 => te S2 O K) → acc.length + ks.length < 16000000 →
    endLc ow Q (acc ++ (ks.filter p).map g) O → lcW ow b tt te S Q (ks.map f) acc O
  | [], acc, _, _, _, h => by rw [List.filter_nil, List.map_nil, List.append_nil] at h; exact h
  | k :: ks, acc, h1, h2, hl, h => by
    rw [List.length_cons] at hl
    rw [List.map_cons]
    unfold lcW
    have hS2 : ∃ S2, b (f k) S = some S2 := by
      obtain ⟨S2, e, _⟩ := onSome_ex (h1 k List.mem_cons_self (fun _ _ => True) trivial)
      exact ⟨S2, e⟩
    obtain ⟨S2, e⟩ := hS2
    have t1 : ∀ K : Bool → Own → Prop, K (p k) O → tt S2 O K := fun K hK => by
      obtain ⟨S3, e3, h3⟩ := onSome_ex (h1 k List.mem_cons_self K hK)
      rw [e] at e3; cases e3; exact h3
    refine onSome_of e (t1 _ ?_)
    cases hp : p k with
    | true =>
      have t2 : ∀ K : DVK, K (g k) O → te S2 O K := fun K hK => by
        obtain ⟨S3, e3, h3⟩ := onSome_ex (h2 k List.mem_cons_self hp K hK)
        rw [e] at e3; cases e3; exact h3
      rw [if_pos rfl]
      refine t2 _ ⟨by omega, lcW_filtM f g p ks _ (fun k hk => h1 k (List.mem_cons_of_mem _ hk)) (fun k hk => h2 k (List.mem_cons_of_mem _ hk)) (by rw [List.length_append]; simp; omega) ?_⟩
      rw [List.filter_cons_of_pos hp] at h
      rw [List.append_assoc]; exact h
    | false =>
      rw [if_neg (by decide)]
      refine lcW_filtM f g p ks _ (fun k hk => h1 k (List.mem_cons_of_mem _ hk)) (fun k hk => h2 k (List.mem_cons_of_mem _ hk)) (by omega) ?_
      rw [List.filter_cons_of_neg (by rw [hp]; decide)] at h
      exact h
theorem cutD_tail {x : DV} {xs : List DV} : cutD (x :: xs) (some 1) none = xs := by
  unfold cutD
  have e1 : HT.sIx (x :: xs).length 0 (some 1) = 1 := by
    have : HT.sIx (x :: xs).length 0 (some 1) = min 1 (xs.length + 1) := rfl
    rw [this]; omega
  have e2 : HT.sIx (x :: xs).length (x :: xs).length none = (x :: xs).length := rfl
  rw [e1, e2, List.drop_succ_cons, List.drop_zero]
  exact List.take_of_length_le (by rw [List.length_cons]; omega)
def Fr (O O' : Own) (as : List Addr) : Prop := ∀ b, b ∉ as → O b ≠ none → O' b = O b
theorem Fr.at {O O' : Own} {as : List Addr} (h : Fr O O' as) {b : Addr} {c : Cell} (hb : O b = some c) (hn : b ∉ as) : O' b = some c := by rw [h b hn (by rw [hb]; simp), hb]
theorem Fr.refl {O : Own} {as : List Addr} : Fr O O as := fun _ _ _ => rfl
theorem Fr.trans {O O' O2 : Own} {as : List Addr} (h : Fr O O' as) (h2 : Fr O' O2 as) : Fr O O2 as := fun b hb ho => by
  have e := h b hb ho
  rw [h2 b hb (by rw [e]; exact ho), e]
theorem Fr.wk {O O' : Own} {as bs : List Addr} (h : Fr O O' as) (hs : ∀ a ∈ as, a ∈ bs) : Fr O O' bs := fun b hb ho => h b (fun q => hb (hs b q)) ho
theorem Fr.set {O O' : Own} {as : List Addr} {a : Addr} {c : Cell} (h : Fr O O' as) (ha : a ∈ as ∨ O a = none) : Fr O (oset O' a c) as := fun b hb ho => by
  have hne : b ≠ a := by
    rintro rfl
    rcases ha with ha | ha
    · exact hb ha
    · exact ho ha
  rw [oset_ne hne]; exact h b hb ho
theorem Fr.none {O O' : Own} {as : List Addr} (h : Fr O O' as) {b : Addr} (hb : O' b = none) (hn : b ∉ as) : O b = none := by
  cases e : O b with
  | none => rfl
  | some c => rw [h.at e hn] at hb; cases hb
theorem ne_of {O : Own} {a p : Addr} {c : Cell} (h : O a = some c) (hp : O p = none) : a ≠ p := by
  rintro rfl; rw [h] at hp; cases hp
end DL
set_option Elab.async false
set_option linter.all false
set_option maxRecDepth 100000
namespace DL
open PySem PySem.Spec PyProof.Rows L2 TL
variable {XW : DXK}
theorem yield_own {K : KG} {F2 H : Hp} {O : Own} {p : Addr} {ds : List DV} (rs : RS K F2 O H) (e : O p = some (.lst ds)) (i : Nat) :
    (∀ d, ds[i]? = some d → (Itl K p).go i H ∧ ∀ x H', (Itl K p).yld i H x H' → ∃ F3, Stp K F2 O H F3 O H' ∧ Rep K F3 x d) ∧ (ds.length ≤ i → (Itl K p).stop i H) := by
  obtain ⟨_, vs, h1, r⟩ := rs.own p _ e
  have h0 : SqL K H p vs := SqL.of h1
  refine ⟨fun d e => ?_, fun e => ⟨vs, h0, by rw [r.len]; exact e⟩⟩
  obtain ⟨v, hv, h2⟩ := r.get e
  refine ⟨⟨vs, v, h0, hv⟩, fun x H' ⟨q1, q2⟩ => ?_⟩
  subst q1
  have := q2 vs h0
  rw [hv] at this; cases this
  exact ⟨F2, .refl rs, h2⟩
def lcWO (ow : Bool) (p : Addr) (all : List DV) (b : DV → DSt → Option DSt) (tt : DTT) (te : DTE) (S : DSt) (Q : DVK) : List DV → List DV → Own → Prop
  | [], acc, O => O p = some (.lst all) ∧ endLc ow Q acc O
  | x :: r, acc, O => O p = some (.lst all) ∧ onSome (b x S) fun S2 => tt S2 O fun c O2 => if c = true then te S2 O2 fun y O3 => acc.length < 16000000 ∧ lcWO ow p all b tt te S Q r (acc ++ [y]) O3 else lcWO ow p all b tt te S Q r acc O2
def dLcO (ow : Bool) (td : DTE) (b : DV → DSt → Option DSt) (tt : DTT) (te : DTE) (vs : List Nat) (S : DSt) (O : Own) (Q : DVK) : Prop := td S O (kRef fun p O1 => onL (O1 p) fun all => lcWO ow p all b tt te (dwipe S vs) Q all [] O1)
theorem liftLcO {K : KG} {ow : Bool} {td : DTE} {g : TG} {b : DV → DSt → Option DSt} {tt : DTT} {te : DTE} {vs : List Nat} (hg : TgtOk K.f g b vs) {σ : L2.St} {H : Hp} {VQ : VK} (h : liftE K (dLcO ow td b tt te vs) σ H VQ) :
    tLc (iList K (liftE K td)) g (liftT ⟨K.f, X0, L2.E0⟩ tt) (liftE ⟨K.f, X0, L2.E0⟩ te) vs σ H VQ := by
  obtain ⟨F, O, S, Q, rs, sr, h, fin⟩ := h
  refine ⟨F, O, S, _, rs, sr, h, fun dv O1 h1 v H1 F1 s1 rv => ?_⟩
  unfold kRef at h1
  split at h1
  · rename_i p
    cases rv
    obtain ⟨ds, ep, h1⟩ := onL_ex h1
    obtain ⟨_, vp, hp1, rp⟩ := s1.rs.own p _ ep
    refine ⟨p, rfl, ⟨vp, SqL.of hp1⟩, fun D hD => ?_⟩
    obtain ⟨hf1, ho1⟩ := s1.rs.free hD
    refine ⟨fun i m H' => m = ds.length - i ∧ ∃ F' O' acc vacc, Stp K F1 O1 H1 F' O' H' ∧ H' D = some (.lst vacc) ∧ F' D = none ∧ O' D = none ∧ Reps K F' vacc acc ∧ lcWO ow p ds b tt te (dwipe S vs) Q (ds.drop i) acc O',
      ⟨_, rfl, F1, O1, [], [], (Stp.refl s1.rs).side s1.rs hD hf1 ho1 _, upd_same, hf1, ho1, .nil, h1⟩, ?_⟩
    rintro i m H' ⟨em, F', O', acc, vacc, s', hd', hf', ho', ra, h'⟩
    by_cases hi : i < ds.length
    · have e0 : ds[i]? = some ds[i] := List.getElem?_eq_getElem hi
      rw [List.drop_eq_getElem_cons hi] at h'
      unfold lcWO at h'
      obtain ⟨hown, h'⟩ := h'
      obtain ⟨y1, y2⟩ := yield_own s'.rs hown i
      obtain ⟨hgo, hy⟩ := y1 _ e0
      refine .inr ⟨hgo, fun H2 => ∃ F' O' acc vacc, Stp K F1 O1 H1 F' O' H2 ∧ H2 D = some (.lst vacc) ∧ F' D = none ∧ O' D = none ∧ Reps K F' vacc acc ∧ lcWO ow p ds b tt te (dwipe S vs) Q (ds.drop (i + 1)) acc O', fun H2 q => ⟨_, ?_, rfl, q⟩, fun x H2 q => ?_⟩
      · omega
      · obtain ⟨F3, s3, r3⟩ := hy x H2 q
        obtain ⟨S2, e2, h'⟩ := onSome_ex h'
        · refine hg.ok s3.rs.z r3 (((sr.mono s1.sub).mono s'.sub).mono s3.sub |>.wipe vs) e2 fun σ2 sr2 ew => ⟨ew.trans (wipe_wipe fun _ h => h), F3, O', S2, _, s3.rs.drop, sr2, h', fun c O4 h4 H4 F4 s4' => ?_⟩
          have s4 := s4'.up s3.rs
          have st4 := s3.trans s4
          dsimp only at h4 ⊢
          split
          · rename_i e; rw [if_pos e] at h4
            refine ⟨F4, O4, S2, _, s4.rs.drop, sr2.mono s4.sub, h4, fun d O5 h5 v H5 F5 s5' r5 => ?_⟩
            have s5 := s5'.up s4.rs
            have st5 := st4.trans s5
            obtain ⟨k1, k2⟩ := st5.keep D _ hd' ho'
            have k3 := st5.nof D _ hd' ho' hf'
            exact ⟨vacc, k1, by rw [ra.len]; exact lc_line h5.1, F5, O5, _, _, (s'.trans st5).side s1.rs hD k3 k2 _, upd_same, k3, k2, (ra.mono st5.sub).append (.cons r5 .nil), h5.2⟩
          · rename_i e; rw [if_neg e] at h4
            obtain ⟨k1, k2⟩ := st4.keep D _ hd' ho'
            have k3 := st4.nof D _ hd' ho' hf'
            exact ⟨F4, O4, acc, vacc, s'.trans st4, k1, k3, k2, ra.mono st4.sub, h4⟩
    · rw [List.drop_eq_nil_of_le (by omega)] at h'
      unfold lcWO at h'
      exact .inl ⟨(yield_own s'.rs h'.1 i).2 (by omega), endLc_ok s1.rs s' hD hd' hf' ho' ra h'.2 (fin.step s1)⟩
  · exact h1.elim
section
variable {X : Cx}
theorem de_lcO (ow : Bool) {elt tg iter : Expr} {ifs : List Expr} {scope : Scope} {own : List (Str × Nat)} {pos : Pos} {td : DTE} {g : TG} {b : DV → DSt → Option DSt} {tt : DTT} {te : DTE} (hc : X.calm = true) (hN : X.N.Nodup) (hi : DE XW X iter td) (ok : BlkOk X.N X.env.scope scope own) (hT : TgtOk X.K g b (own.map (·.2)))
    (hg : ∀ (s : Shared) (H : Hp) (C : Addr) (cl : List (Str × Addr)) (fp : List Addr), PG (X.blk s H scope (compEnvC scope cl C X.env) fp) tg g) (ht : ∀ (s : Shared) (H : Hp) (C : Addr) (cl : List (Str × Addr)) (fp : List Addr), DTs X0 (X.blk s H scope (compEnvC scope cl C X.env) fp) ifs tt)
    (he : ∀ (s : Shared) (H : Hp) (C : Addr) (cl : List (Str × Addr)) (fp : List Addr), DE X0 (X.blk s H scope (compEnvC scope cl C X.env) fp) elt te) (hs : ∀ x, foldedSetIterable iter X.env x = pure x := by intro _; rfl) :
    DE XW X (.ListComp elt [⟨tg, iter, ifs, 0⟩] scope pos) (dLcO ow td b tt te (own.map (·.2))) :=
  ⟨fun g0 hg0 => PE_imp (pe_lc (te := liftE ⟨X.K, X0, L2.E0⟩ te) (tt := liftT ⟨X.K, X0, L2.E0⟩ tt) hc hN (pi_list (hi.pe g0 hg0)) ok hg (fun s H C cl fp => (ht s H C cl fp).pts (X0, L2.E0) (good_of (takesL) fun _ _ _ h => h)) (fun s H C cl fp => (he s H C cl fp).pe (X0, L2.E0) (good_of (takesL) fun _ _ _ h => h)) hs) fun _ _ _ h => liftLcO hT h⟩
end
def kMulO (xs : List DV) (Q : DVK) : DV → Own → Prop
  | .int k, O => -(2 ^ 63) ≤ k ∧ k < 2 ^ 63 ∧ xs.length * k.toNat ≤ sizeLine ∧ ∀ p, O p = none → Q (.ref p) (oset O p (.lst (List.replicate k.toNat xs).flatten))
  | _, _ => False
theorem kMulO_e1 {xs : List DV} {Q : DVK} {k : Int} {O : Own} : kMulO xs Q (.int k) O = (-(2 ^ 63) ≤ k ∧ k < 2 ^ 63 ∧ xs.length * k.toNat ≤ sizeLine ∧ ∀ p, O p = none → Q (.ref p) (oset O p (.lst (List.replicate k.toNat xs).flatten))) := rfl
def dMulO (x y : DV) (O : Own) (Q : DVK) : Prop := lstQ O x fun xs => kMulO xs Q y O
end DL
set_option Elab.async false
set_option linter.all false
set_option maxRecDepth 100000
namespace DL
open PySem PySem.Spec PyProof.Rows L2 TL
variable {XW : DXK}
def onI (c : Option Cell) (C : Addr) (K : List (Str × DV) → Prop) : Prop :=
  match c with
  | some (.ins C' fs) => C' = C ∧ K fs
  | _ => False
theorem onI_e1 {C : Addr} {fs : List (Str × DV)} {K : List (Str × DV) → Prop} : onI (some (.ins C fs)) C K = K fs := by
  unfold onI; simp
theorem onI_ex {c : Option Cell} {C : Addr} {K : List (Str × DV) → Prop} (h : onI c C K) : ∃ fs, c = some (.ins C fs) ∧ K fs := by
  unfold onI at h
  split at h
  · obtain ⟨rfl, h⟩ := h; exact ⟨_, rfl, h⟩
  · exact h.elim
def dputF (f : Str) (v : DV) : List (Str × DV) → List (Str × DV)
  | [] => [(f, v)]
  | (g, x) :: r => if g = f then (g, v) :: r else (g, x) :: dputF f v r
section
variable {K : PySem.W.Frag} {F : Hp}
theorem RepF.lookup {f : Str} {d : DV} : ∀ {xs : List (Str × V)} {ys : List (Str × DV)}, RepF K F xs ys → ys.lookup f = some d → ∃ v, xs.lookup f = some v ∧ Rep K F v d
  | _, _, .nil, e => by simp at e
  | (g, x) :: xs, (g', y) :: ys, .cons h r, e => by
    obtain ⟨h1, h2⟩ := h
    dsimp only at h1 h2
    subst h1
    by_cases q : f = g
    · subst q
      rw [List.lookup_cons_self] at e ⊢
      cases e; exact ⟨_, rfl, h2⟩
    · have hb : (f == g) = false := beq_eq_false_iff_ne.mpr q
      simp only [List.lookup, hb] at e ⊢
      exact RepF.lookup r e
theorem RepF.lookN {f : Str} : ∀ {xs : List (Str × V)} {ys : List (Str × DV)}, RepF K F xs ys → ys.lookup f = none → xs.lookup f = none
  | _, _, .nil, e => rfl
  | (g, x) :: xs, (g', y) :: ys, .cons h r, e => by
    obtain ⟨h1, h2⟩ := h
    dsimp only at h1 h2
    subst h1
    by_cases q : f = g
    · subst q
      rw [List.lookup_cons_self] at e
      cases e
    · have hb : (f == g) = false := beq_eq_false_iff_ne.mpr q
      simp only [List.lookup, hb] at e ⊢
      exact RepF.lookN r e
theorem RepF.len : ∀ {xs : List (Str × V)} {ys : List (Str × DV)}, RepF K F xs ys → xs.length = ys.length
  | _, _, .nil => rfl
  | _, _, .cons _ r => by simp [RepF.len r]
theorem RepF.put {f : Str} {v : V} {d : DV} (hv : Rep K F v d) : ∀ {xs : List (Str × V)} {ys : List (Str × DV)}, RepF K F xs ys → RepF K F (putF f v xs) (dputF f d ys)
  | _, _, .nil => .cons ⟨rfl, hv⟩ .nil
  | (g, x) :: xs, (g', y) :: ys, .cons h r => by
    obtain ⟨h1, h2⟩ := h
    dsimp only at h1 h2
    subst h1
    unfold putF dputF
    by_cases q : g = f
    · rw [if_pos q, if_pos q]; exact .cons ⟨rfl, hv⟩ r
    · rw [if_neg q, if_neg q]; exact .cons ⟨rfl, h2⟩ (RepF.put hv r)
end
def dFld (C : Addr) (f : Str) (td : DTE) (S : DSt) (O : Own) (Q : DVK) : Prop := td S O (kRef fun a O1 => onI (O1 a) C fun fs => onSome (fs.lookup f) fun d => Q d O1)
def dSFld (C : Addr) (f : Str) (td tv : DTE) (D : DEnds) (S : DSt) (O : Own) : Prop := tv S O fun y O1 => td S O1 (kRef fun a O2 => onI (O2 a) C fun fs => fs.length < 1000 ∧ D.nx S (oset O2 a (.ins C (dputF f y fs))))
def dSFldI (C : Addr) (f : Str) (op : Int → Int → Int) (td tv : DTE) (D : DEnds) (S : DSt) (O : Own) : Prop := td S O (kRef fun a O1 => onI (O1 a) C fun fs => onSome (fs.lookup f) fun d => kInt (fun i O2 => tv S O2 (kInt fun j O3 => onI (O3 a) C fun fs' => fs'.length < 1000 ∧ D.nx S (oset O3 a (.ins C (dputF f (.int (op i j)) fs'))))) d O1)
def dMeth (C : Addr) (m : Str) (sp : DSp) (td : DTE) (t : DTA) (S : DSt) (O : Own) (Q : DVK) : Prop := td S O (kRef fun a O1 => onI (O1 a) C fun fs => fs.lookup m = none ∧ t S O1 fun ds O2 => callsp sp (.ref a :: ds) O2 Q X0)
def dMethX (XW : DXK) (C : Addr) (m : Str) (sp : DSp) (td : DTE) (t : DTA) (S : DSt) (O : Own) (Q : DVK) : Prop := td S O (kRef fun a O1 => onI (O1 a) C fun fs => fs.lookup m = none ∧ t S O1 fun ds O2 => callsp sp (.ref a :: ds) O2 Q XW)
def dMake (C : Addr) (sp : DSp) (t : DTA) (S : DSt) (O : Own) (Q : DVK) : Prop := t S O fun ds O1 => ∀ x, O1 x = none → callsp sp (.ref x :: ds) (oset O1 x (.ins C [])) (fun v O2 => v = .non ∧ Q (.ref x) O2) X0
def dMakeX (XW : DXK) (C : Addr) (sp : DSp) (t : DTA) (S : DSt) (O : Own) (Q : DVK) : Prop := t S O fun ds O1 => ∀ x, O1 x = none → callsp sp (.ref x :: ds) (oset O1 x (.ins C [])) (fun v O2 => v = .non ∧ Q (.ref x) O2) XW
section
variable {K : KG} {F H : Hp} {O : Own} {C : Addr} {f m : Str} {td tv : DTE} {t : DTA} {σ : L2.St} {VQ : VK} {sp : DSp}
theorem own_ins (rs : RS K F O H) {a : Addr} {fs : List (Str × DV)} (e : O a = some (.ins C fs)) : ∃ dx fvs, H a = some (.ins C dx fvs) ∧ RepF K F fvs fs := (rs.own a _ e).2
theorem liftFld (hC : Cls K.f C) (hn : NoAttr K.f C f) (h : liftE K (dFld C f td) σ H VQ) : tFld K.f (liftE K td) f σ H VQ := by
  obtain ⟨F, O, S, Q, rs, sr, h, fin⟩ := h
  refine ⟨F, O, S, _, rs, sr, h, fun dv O1 h1 v H1 F1 s1 rv => ?_⟩
  obtain ⟨a, rfl, h1⟩ := kRef_ex h1
  cases rv
  obtain ⟨fs, ef, h1⟩ := onI_ex h1
  obtain ⟨d, ed, h1⟩ := onSome_ex h1
  obtain ⟨dx, fvs, hp, rf⟩ := own_ins s1.rs ef
  obtain ⟨v, ev, rv⟩ := rf.lookup ed
  exact ⟨a, C, dx, fvs, v, rfl, hp, hC, hn, ev, fin _ _ h1 _ _ _ s1 rv⟩
theorem RS.fput (r : RS K F O H) {a dx : Addr} {fs : List (Str × DV)} {fvs : List (Str × V)} {v : V} {d : DV} (e : O a = some (.ins C fs)) (rf : RepF K F fvs fs) (rv : Rep K F v d) : Stp K F O H F (oset O a (.ins C (dputF f d fs))) (upd H a (.ins C dx (putF f v fvs))) :=
  r.write e ⟨_, _, upd_same, rf.put rv⟩
theorem liftSFld {VD : Ends} (hC : Cls K.f C) (hn : NoAttr K.f C f) (h : liftS K (dSFld C f td tv) VD σ H) : sFld K.f (liftE K td) (liftE K tv) f VD σ H := by
  obtain ⟨F, O, S, D, rs, sr, h, fin⟩ := h
  refine ⟨F, O, S, _, rs, sr, h, fun y O1 h1 v H1 F1 s1 rv => ⟨F1, O1, S, _, s1.rs, sr.mono s1.sub, h1, fun dv O2 h2 u H2 F2 s2 ru => ?_⟩⟩
  obtain ⟨a, rfl, h2⟩ := kRef_ex h2
  cases ru
  obtain ⟨fs, ef, hl, h2⟩ := onI_ex h2
  obtain ⟨dx, fvs, hp, rf⟩ := own_ins s2.rs ef
  have s3 := s2.rs.fput (f := f) (dx := dx) ef rf (rv.mono s2.sub)
  exact ⟨a, C, dx, fvs, rfl, hp, hC, hn, by rw [rf.len]; exact hl, fin.nx _ _ h2 _ _ _ ((s1.trans s2).trans s3) (sr.mono (s1.sub.trans s2.sub))⟩
theorem liftMethX (hw : ∀ C fs O, XW C fs O → K.ed C fs O) (h : liftE K (dMethX XW C m sp td t) σ H VQ) : tMeth C m (liftSp K sp) [] K.e (liftE K td) (liftA K t) σ H VQ := by
  obtain ⟨F, O, S, Q, rs, sr, h, fin⟩ := h
  refine ⟨F, O, S, _, rs, sr, h, fun dv O1 h1 v H1 F1 s1 rv => ?_⟩
  obtain ⟨a, rfl, h1⟩ := kRef_ex h1
  cases rv
  obtain ⟨fs, ef, hl, h1⟩ := onI_ex h1
  obtain ⟨dx, fvs, hp, rf⟩ := own_ins s1.rs ef
  refine ⟨a, dx, fvs, rfl, hp, rf.lookN hl, F1, O1, S, _, s1.rs, sr.mono s1.sub, h1, fun ds O2 h2 vs H2 F2 s2 r2 => ?_⟩
  exact ⟨F2, O2, _, Q, XW, s2.rs.z, .cons (.ref a) (by simpa using r2), h2, (fin.step (s1.trans s2)).z s2.rs, xw_fin s2.rs hw⟩
theorem RS.newIns (r : RS K F O H) {x dx : Addr} (h1 : H x = none) (h2 : H dx = none) (ne : dx ≠ x) : Stp K F O H F (oset O x (.ins C [])) (upd (upd H dx (.own x)) x (.ins C dx [])) := by
  obtain ⟨hf, ho⟩ := r.free h1
  obtain ⟨hf2, ho2⟩ := r.free h2
  have s : Stp K F O H F O (upd H dx (.own x)) := by
    refine Stp.mk' r (Sub.refl _) ⟨fun b u e => ?_, fun b c e => ?_⟩ (fun b u g1 g2 => ?_) (fun _ _ _ _ h => h)
    · have hb : b ≠ dx := fun z => by subst z; rw [hf2] at e; cases e
      rw [upd_ne hb]; exact r.fro b u e
    · have hb : b ≠ dx := fun z => by subst z; rw [ho2] at e; cases e
      obtain ⟨g1, g2⟩ := r.own b c e
      exact ⟨g1, g2.mono (Sub.refl _) (upd_ne hb)⟩
    · have hb : b ≠ dx := fun z => by subst z; rw [h2] at g1; cases g1
      exact ⟨by rw [upd_ne hb]; exact g1, g2⟩
  have h3 : upd H dx (.own x) x = none := by rw [upd_ne (Ne.symm ne)]; exact h1
  exact s.trans (s.rs.newO h3 (c := .ins C []) ⟨dx, [], upd_same, .nil⟩)
theorem liftMake (h : liftE K (dMake C sp t) σ H VQ) : tMake C (liftSp K sp) [] E0 (liftA K t) σ H VQ := by
  obtain ⟨F, O, S, Q, rs, sr, h, fin⟩ := h
  refine ⟨F, O, S, _, rs, sr, h, fun ds O1 h1 vs H1 F1 s1 r1 => fun x dx hx hdx ne => ?_⟩
  have s2 := s1.rs.newIns (C := C) hx hdx ne
  refine ⟨F1, _, _, _, X0, s2.rs.z, .cons (.ref x) (by simpa using r1), h1 x (s1.rs.free hx).2, ?_, x0_fin⟩
  refine FinE.z (K := K) ?_ s2.rs
  rintro d O' ⟨rfl, q⟩ v H' F' s3 rv
  cases rv
  exact ⟨rfl, fin _ _ q _ _ _ ((s1.trans s2).trans s3) (.ref x)⟩
end
section
variable {X : Cx} {o e value : Expr} {f m x : Str} {pos pos' tpos apos p : Pos} {td tv : DTE} {t : DTA} {C g : Addr} {fd : FuncData} {ps : List Str} {sp : DSp} {k : Nat} {es : List Expr} {pl : Sem Bool}
theorem de_fld (hC : Cls X.K C) (hn : NoAttr X.K C f) (ho : DE XW X e td) (hb : attributeBase e f X.env (eval e X.env) = eval e X.env := by rfl) : DE XW X (.Attribute e f pos) (dFld C f td) :=
  ⟨fun g0 hg0 => PE_imp (pe_fld (ho.pe g0 hg0) hb) fun _ _ _ h => liftFld (K := kg X g0) hC hn h⟩
theorem ds_fld (hC : Cls X.K C) (hn : NoAttr X.K C f) (ho : DE XW X o td) (hv : DE XW X value tv) (hs : swapsWith value (some (.Attribute o f pos')) pos.line X.env = pure false := by rfl) : DS XW X (.Assign [.Attribute o f pos'] value pos) (dSFld C f td tv) :=
  ⟨fun g0 hg0 => PS_imp (ps_fld (ho.pe g0 hg0) (hv.pe g0 hg0) hs) fun _ _ _ h => liftSFld (K := kg X g0) hC hn h⟩
theorem de_methX (c : Cls X.K C) (hm : Meth X.K C m g) (G : FnOk X.prog X.w X.K X.mg X.base (L2.CX X.prog X.w) k g fd ps (liftSp X.K sp)) (hr : Room k X.A) (hb : Binds X.K fd ps []) (he : DE XW X o td) (ha : DA XW X (e :: es) t)
    (hst : starEach (e :: es) X.env = (false, eval e X.env) :: starEach es X.env := by rfl) (hpl : (backTo pos (starEach es X.env)).any (·.1) = false := by rfl)
    (ht : eval (.Call (.Attribute o m apos) (e :: es) [] pos) X.env = (do
      let ov ← eval o X.env
      standAt apos.atName
      let (f, first) ← holding [ov] (getMethod ov m pl)
      callWith pos f first (backTo pos (starEach (e :: es) X.env)) (backToKw pos (keywordEach [] X.env))) := by rfl) : DE XW X (.Call (.Attribute o m apos) (e :: es) [] pos) (dMethX XW C m sp td t) :=
  ⟨fun g0 hg0 => PE_imp (pe_meth (he.pe g0 hg0) c hm G hr hb .nil hg0.pass (ha.pa g0 hg0) hst hpl ht) fun _ _ _ h => liftMethX (K := kg X g0) hg0.2 h⟩
theorem liftA_nil {K : KG} {σ : L2.St} {H : Hp} {VQ : List V → Hp → Prop} (h : liftA K dANil σ H VQ) : tNil σ H VQ := by
  obtain ⟨F, O, S, Q, rs, sr, h, fin⟩ := h
  exact fin _ _ h _ _ _ (.refl rs) .nil
theorem de_meth0 (c : Cls X.K C) (hm : Meth X.K C m g) (G : FnOk X.prog X.w X.K X.mg X.base CX0 k g fd ps (liftSp X.K sp)) (hr : Room k X.A) (hb : Binds X.K fd ps []) (he : DE XW X o td)
    (ht : eval (.Call (.Attribute o m apos) [] [] pos) X.env = (do
      let ov ← eval o X.env
      standAt apos.atName
      let (f, first) ← holding [ov] (getMethod ov m pl)
      callWith pos f first (backTo pos (starEach [] X.env)) (backToKw pos (keywordEach [] X.env))) := by rfl) : DE XW X (.Call (.Attribute o m apos) [] [] pos) (dMeth C m sp td dANil) := by
  refine ⟨fun g0 hg0 => PE_imp (pe_meth0 (he.pe g0 hg0) c hm G hr hb .nil pass0 ht) ?_⟩
  rintro σ H VQ ⟨F, O, S, Q, rs, sr, h, fin⟩
  refine ⟨F, O, S, _, rs, sr, h, fun dv O1 h1 v H1 F1 s1 rv => ?_⟩
  obtain ⟨a, rfl, h1⟩ := kRef_ex h1
  cases rv
  obtain ⟨fs, ef, hl, h1⟩ := onI_ex h1
  obtain ⟨dx, fvs, hp, rf⟩ := own_ins s1.rs ef
  exact ⟨a, dx, fvs, rfl, hp, rf.lookN hl, F1, O1, _, Q, X0, s1.rs.z, .cons (.ref a) .nil, h1, (fin.step s1).z s1.rs, x0_fin⟩
end
end DL
set_option Elab.async false
set_option linter.all false
set_option maxRecDepth 100000
namespace DL
open PySem PySem.Spec PyProof.Rows L2 TL
variable {XW : DXK}
def keyV : Key → DV
  | .inl i => .int i
  | .inr s => .str s
theorem keyV_str {s : Str} : keyV (Sum.inr s) = .str s := rfl
def dForK (i : Nat) (g : DTG) (tb : DTS) (D : DEnds) (S : DSt) (O : Own) : Prop := onSome (slot S i) fun x => kRef (fun a O1 => onK (O1 a) fun es => forW g tb D (es.map fun kv : Key × DV => keyV kv.1) (S.set i (some (.dK es))) (odel O1 a)) x O
def dLcV (ow : Bool) (i : Nat) (b : DV → DSt → Option DSt) (tt : DTT) (te : DTE) (vs : List Nat) (S : DSt) (O : Own) (Q : DVK) : Prop := onSome (slot S i) fun x => kRef (fun a O1 => onK (O1 a) fun es => lcW ow b tt te (dwipe S vs) (fun d O2 => Q d (oset O2 a (.dK es))) (es.map fun kv : Key × DV => kv.2) [] (odel O1 a)) x O
def dMax2 : List DV → Own → DVK → Prop
  | [.int i, .int j], O, Q => Q (.int (if j > i then j else i)) O
  | _, _, _ => False
theorem dMax2_e1 {i j : Int} {O : Own} {Q : DVK} : dMax2 [.int i, .int j] O Q = Q (.int (if j > i then j else i)) O := rfl
def dMaxL : List DV → Own → DVK → Prop
  | [d], O, Q => lstQ O d fun xs => ∃ ns : List Int, xs = ns.map DV.int ∧ 0 < ns.length ∧ ∀ m, m ∈ ns → (∀ y ∈ ns, y ≤ m) → Q (.int m) O
  | _, _, _ => False
theorem dMaxL_e1 {d : DV} {O : Own} {Q : DVK} : dMaxL [d] O Q = lstQ O d fun xs => ∃ ns : List Int, xs = ns.map DV.int ∧ 0 < ns.length ∧ ∀ m, m ∈ ns → (∀ y ∈ ns, y ≤ m) → Q (.int m) O := rfl
end DL
set_option Elab.async false
set_option linter.all false
set_option maxRecDepth 100000
set_option maxHeartbeats 2000000
namespace DL
open PySem PySem.Spec PyProof.Rows L2 TL
inductive Made (q : Str) (P : Addr) (H : Hp) (c' : Addr) : Hp → Prop
  | old : H c' = some (LamX.CodeO c' q) → Made q P H c' H
  | new {ps ps' : Array Value} : H c' = none → H P = some (.tbl ps) → TriplesOk ps'.toList → (∀ pos cv, codeAmong pos ps'.toList = some cv → codeAmong pos ps.toList = some cv ∨ cv = .ref c') → Made q P H c' (upd (upd H P (.tbl ps')) c' (LamX.CodeO c' q))
def TabF (F H : Hp) (P : Addr) (q : Str) : Prop := ∃ ps : Array Value, H P = some (.tbl ps) ∧ TriplesOk ps.toList ∧ ∀ (pos : Pos) (cv : Value), codeAmong pos ps.toList = some cv → ∃ c, cv = .ref c ∧ F c = some (LamX.CodeO c q)
section
variable {X : Cx} {pins : List (Addr × Obj)} {σ : L2.St} {H : Hp} {s : Shared}
theorem lam_made {q : Str} {c P : Addr} {params : Arguments} {body : Expr} {scope : Scope} {pos : Pos} {E Q : Value → Shared → Prop} (I : L2.Inv X pins σ H s) (TB : LamX.TabB X.base X.mg c P) (hcode : X.env.code = .ref c) (hq : X.env.qual ++ "<lambda>" = q)
    (hT : TabF H H P q) (hdef : defaultsOf params X.env = ([], [])) (hfree : ∀ y ∈ scope.names, y.2 = .free → ∃ c, X.env.cells.lookup y.1 = some c)
    (h : ∀ (f c' : Addr) (pm ctv : Value) (H1 : Hp) (s' : Shared), L2.Inv X pins σ H1 s' → Made q P H c' H1 →
      s'.heap.get? f = some (PySem.W.kla_obj "<lambda>" q params body scope (cloFrom X.env.cells scope.names []) pm c' ctv) → H1 f = none → f ∉ frs X.stack → H1 c' = some (LamX.CodeO c' q) → Q (.ref f) s') :
    wpAny (model X.prog X.w) X.A (eval (.Lambda params body scope pos) X.env) Q E s := by
  obtain ⟨ps, hP, ht, ha⟩ := hT
  subst hq
  refine PySem.W.kla_eval hdef ?_
  have bP := TB.bm.keeps I.bk
  have hP' := I.hok P _ hP
  have far : ∀ f, s.heap.objs.size ≤ f → f ∉ frs X.stack := fun f hf z => by
    rcases List.mem_cons.mp (I.stkSub _ z) with e | e
    · have h1 := I.lt
      rw [← e] at h1
      exact absurd h1 (Nat.not_lt.mpr hf)
    · exact I.nofs hf e
  cases hc : codeAmong pos ps.toList with
  | some cv =>
    obtain ⟨c', rfl, hco⟩ := ha pos cv hc
    exact PySem.W.kla_makeFunctionHit (closure_ok hfree) I.ok.glob (I.mod.glob.keeps I.bk) hcode (TB.code.keeps I.bk) hP' ht hc bP fun ctv h' tk hx hsz =>
      h h'.objs.size c' _ ctv H _ (I.kept fun b o e => Heap.get?_push_of_some _ (hx b o e)) (.old hco) (Heap.get?_push_size _ rfl) (I.hok.fresh hsz) (far _ hsz) hco
  | none =>
    refine PySem.W.kla_makeFunction (closure_ok hfree) I.ok.glob (I.mod.glob.keeps I.bk) hcode (TB.code.keeps I.bk) hP' ht hc TB.gP bP fun c' ctv h' tk hx hge hlt hrec htb => ?_
    obtain ⟨c2, oc, vs, t, e2, hoc, hd, hv⟩ := hrec
    cases e2
    have hsz := Nat.le_trans hge (Nat.le_of_lt hlt)
    have nC := I.hok.fresh hge
    have eL : (ps ++ #[rawInt pos.line, rawInt pos.col, .ref c']).toList = ps.toList ++ [rawInt pos.line, rawInt pos.col, .ref c'] := by simp
    refine h h'.objs.size c' _ ctv _ _ (LamX.inv_table I hP (fun b o hb e => Heap.get?_push_of_some _ (hx b o hb e)) (Heap.get?_push_of_some _ htb) hge ⟨oc, vs, t, Heap.get?_push_of_some _ hoc, hd, hv⟩)
      (.new nC hP (by rw [eL]; exact PySem.TriplesOk_snoc _ _ _ _ ht) fun p' cv hcv => ?_) (Heap.get?_push_size _ rfl) ?_ (far _ hsz) upd_same
    · rw [eL] at hcv
      exact LamX.among_app _ ht hcv
    · rw [upd_ne (Nat.ne_of_gt hlt), upd_ne (Nat.ne_of_gt (Nat.lt_of_lt_of_le (Heap.lt_size hP') hsz))]
      exact I.hok.fresh hsz
def tLamM (q : Str) (P : Addr) (TT : (XK → Hp → VK → Prop) → Hp → VK → Prop) (t : XK → TE) : TE := fun σ H Q => TabF H H P q ∧ ∀ c' H1, Made q P H c' H1 → TT (fun E H' Q' => t E σ H' Q') H1 Q
theorem pe_lamM {TT : (XK → Hp → VK → Prop) → Hp → VK → Prop} {x a q : Str} {g c P : Addr} {k : Nat} {pg : Arguments} {bg : List Stmt} {sg : Scope} {dV kV doc pm cdv ct oc : Value} {an od : Option Addr} {osl : Array (Option Value)} {Ng : List Str}
    {params : Arguments} {body : Expr} {scope : Scope} {t : XK → TE} {p lpos pos : Pos} (hg : Gl X x) (hm : X.mg x = some (.ref g)) (hk : PySem.W.keepIn X.K (.ref g) = true)
    (lk : X.K.lookup g = some ⟨oc, od, .func (PySem.W.fnOf x x pg bg sg dV kV doc pm an cdv ct), osl⟩) (hcg : PySem.W.codeIn X.K cdv x = true) (hb : L2.Binds X.K (PySem.W.fnOf x x pg bg sg dV kV doc pm an cdv ct) [a] []) (Sg : FnScope Ng [a] sg) (hNg : Ng[0]? = some a) (hva : Vis sg a)
    (hq : X.env.qual ++ "<lambda>" = q) (hG : LamX.GivesTo X Ng x sg g cdv bg a q TT)
    (TB : LamX.TabB X.base X.mg c P) (hcode : X.env.code = .ref c) (hr : Room (k + 2) X.A) (L : LamX.LamS X.env.scope scope) (hdef : defaultsOf params X.env = ([], []))
    (hbind : ∀ (q : Str) (cl : List (Str × Addr)) (pm cv ctv : Value), bindArgs (PySem.W.kla_fn "<lambda>" q params body scope cl pm cv ctv) ⟨[], []⟩ = pure [])
    (hbody : ∀ (A : Around) (outer : List Env) (s : Shared) (H : Hp) (E : XK) (f c' : Addr), Room k (A.deeper (LamX.lamEnv X scope s.heap.objs.size f c')) → PE (LamX.lamCx X A outer s H E scope f c') body (t E))
    (hdb : (x == ("__debug__" : Str)) = false := by decide) (hd : (a == ("__debug__" : Str)) = false := by decide) (hcd : (a == ("__classdict__" : Str)) = false := by decide) :
    PE X (.Call (.Name x p) [.Lambda params body scope lpos] [] pos) (tLamM q P TT t) := by
  subst hq
  refine ⟨fun pins s σ H Q I h => ?_⟩
  refine wpAny_Call_Name_kw (ld_glob I hg hm ?_ hdb)
  refine PySem.W.callWith_K (h₀ := X.base) I.ok.mod.kin hk ?_ (by rfl) (by rfl)
  show wpAny _ _ (spliced ((false, eval (.Lambda params body scope lpos) X.env) :: backTo pos (starEach [] X.env))) _ _ s
  refine Calls.spliced_cons (lam_made I TB hcode rfl h.1 hdef (L.has I.ok) fun f c' pm' ctv H1 s' I1 md hf hfn hfr hco => ?_)
  refine Calls.spliced_nil ⟨I1.kIn, ?_⟩
  refine wpAny_call (codeAny_mono (LamX.run_ofS (CX := C8.CX0) (E := C8.E0) (Q := Q) (N := Ng) (ps := [a]) (us := [.ref f]) (vs := [.ref f]) lk hcg Sg hr I1.env0 (hb s' [.ref f] I1.kIn rfl) (.cons rfl .nil) rfl fun hr' => ?_) fun r s2 hq => ?_)
  · obtain ⟨t', ht', hq'⟩ := hG f c' s' H1 Q (fun E H' Q' => t E σ H' Q') (fun W pn xe E p1 p2 tk hW => LamX.pe_act (i := 0) I1 L hf hfn hfr (hbind _ _ _ _ _) tk hW hr' (fun A outer s H hr2 => hbody A outer s H E f c' hr2) hNg hva hd hcd) hco (h.2 c' H1 md)
    exact ⟨t', ht'.nox, hq'⟩
  · cases r with
    | error e => exact (show False from hq).elim
    | ok fl =>
      cases fl with
      | ret u => exact I1.after hq
      | next => exact False.elim hq
      | brk => exact False.elim hq
      | cont => exact False.elim hq
end
end DL
set_option Elab.async false
set_option linter.all false
set_option maxRecDepth 100000
set_option maxHeartbeats 2000000
set_option Elab.async false
set_option linter.all false
set_option maxRecDepth 100000
set_option maxHeartbeats 2000000
namespace DL
open PySem PySem.Spec PyProof.Rows L2 TL
variable {XW : DXK}
def dTold (q : Str) (P C : Addr) (i m : Nat) (ts : Addr → Addr → DTS) (tb : DXK → DTE) (S : DSt) (O : Own) (Q : DVK) : Prop :=
  O P = some (.tbl q) ∧ ∃ XWb : DXK, tb XWb S O Q ∧ ∀ C' fs O', XWb C' fs O' → C' = C ∧ ∃ l, fs = some l ∧
    ∀ a dd, O' a = none → O' dd = none → ts a dd { nx := fun _ _ => False, rt := Q } ((List.replicate m none).set i (some (.ref a))) (oset O' dd (.xd l))
theorem RS.made {K : KG} {F H H1 : Hp} {O : Own} {P c' : Addr} {q : Str} (rs : RS K F O H) (hP : O P = some (.tbl q)) (m : Made q P H c' H1) : ∃ F1, Stp K F O H F1 O H1 := by
  obtain ⟨hf, ps, e1, e2, e3⟩ := rs.own P _ hP
  cases m with
  | old _ => exact ⟨F, Stp.refl rs⟩
  | @new ps0 ps' nC hP0 ht' hn =>
    rw [e1] at hP0
    cases hP0
    obtain ⟨fC, oC⟩ := rs.free nC
    have hPc : P ≠ c' := fun z => by rw [z, oC] at hP; cases hP
    have sub : Sub F (upd F c' (LamX.CodeO c' q)) := Sub.upd fC
    have at_ : ∀ b, b ≠ P → b ≠ c' → upd (upd H P (.tbl ps')) c' (LamX.CodeO c' q) b = H b := fun b h1 h2 => by rw [upd_ne h2, upd_ne h1]
    refine ⟨_, Stp.mk' rs sub ⟨fun b u e => ?_, fun b c e => ?_⟩ (fun b u h1 h2 => ?_) (fun b u h1 h2 h3 => ?_)⟩
    · by_cases hb : b = c'
      · subst hb; rw [upd_same] at e ⊢; exact .inl e
      · rw [upd_ne hb] at e
        have hbP : b ≠ P := fun z => by rw [z, hf] at e; cases e
        rw [at_ b hbP hb]; exact rs.fro b u e
    · have hb : b ≠ c' := fun z => by rw [z, oC] at e; cases e
      obtain ⟨h1, h2⟩ := rs.own b c e
      refine ⟨by rw [upd_ne hb]; exact h1, ?_⟩
      by_cases hbP : b = P
      · subst hbP
        rw [hP] at e
        cases e
        refine ⟨ps', by rw [upd_ne hb, upd_same], ht', fun pos cv z => ?_⟩
        rcases hn pos cv z with z | z
        · obtain ⟨c, g1, g2⟩ := e3 pos cv z
          exact ⟨c, g1, sub _ _ g2⟩
        · exact ⟨c', z, upd_same⟩
      · exact h2.mono sub (at_ b hbP hb)
    · have hb : b ≠ c' := fun z => by rw [z, nC] at h1; cases h1
      have hbP : b ≠ P := fun z => by rw [z, hP] at h2; cases h2
      exact ⟨by rw [at_ b hbP hb]; exact h1, h2⟩
    · have hb : b ≠ c' := fun z => by rw [z, nC] at h1; cases h1
      rw [upd_ne hb]; exact h3
theorem RS.tabF {K : KG} {F H : Hp} {O : Own} {P : Addr} {q : Str} (rs : RS K F O H) (hP : O P = some (.tbl q)) : TabF H H P q := by
  obtain ⟨hf, ps, e1, e2, e3⟩ := rs.own P _ hP
  exact ⟨ps, e1, e2, fun pos cv z => let ⟨c, g1, g2⟩ := e3 pos cv z; ⟨c, g1, rs.plain g2 (fun z => z)⟩⟩
section
variable {P : Program} {w : World} {K : PySem.W.Frag} {mg : Str → Option Value} {base : Heap}
theorem DFun.okC {x qual : Str} {st : Stmt} {f c : Addr} {fd : FuncData} {N ps : List Str} {k : Nat} {sp : DSp} (hc : fd.code = .ref c) (F : Fun K x qual st f fd) (S : FnScope N ps (defScope st)) (hn : ps.length ≤ N.length) (len : ∀ ds O Q E, sp ds O Q E → ds.length = ps.length)
    (hbody : ∀ (A : Around) (outer : List Env) (s : Shared) (H : Hp) (E : XK) (ds : List DV) (O : Own) (Q : DVK) (ED : DXK), Room k (A.deeper (envOfC qual (defScope st) s.heap.objs.size f (.ref c))) → sp ds O Q ED →
      ∃ t, DSs X0 (cxOf CX0 P w K mg base N qual (defScope st) f (.ref c) A outer s H E).nox (defBody st) t ∧ t { nx := fun _ O' => Q .non O', rt := Q } (dstart N.length ds) O) : FnOk P w K mg base CX0 (k + 1) f fd ps (liftSp K sp) := by
  have h := F
  obtain ⟨oc, od, kV, doc, pm, an, cdv, ct, osl, rfl, lk, hcd⟩ := F.ex
  have ec : cdv = .ref c := hc
  subst ec
  refine fn_of lk hcd S (fun vs H Q E h => ?_) fun A outer s H vs Q E hr hsp => ?_
  · obtain ⟨F, O, ds, QD, ED, rs, r, h, _⟩ := h
    rw [r.len]; exact len _ _ _ _ h
  · obtain ⟨F, O, ds, QD, ED, rs, r, h, fin, _⟩ := hsp
    obtain ⟨t, h1, h2⟩ := hbody A outer s H E ds O QD ED hr h
    refine ⟨_, (h1.ps (X0, L2.E0) (good_of (takesL) fun _ _ _ h => h)).nox, F, O, _, _, rs.low, ?_, h2, body_fin fin.up⟩
    have hl := len _ _ _ _ h
    rw [dstart_eq (by omega)]
    exact SR.start N r
end
def dFz (i : Nat) (t : DTS) (D : DEnds) (S : DSt) (O : Own) : Prop := onSome (slot S i) fun x => kRef (fun a O1 => onL (O1 a) fun xs => t D (S.set i (some (.lst xs))) (odel O1 a)) x O
end DL
set_option Elab.async false
set_option linter.all false
set_option maxRecDepth 100000
set_option maxHeartbeats 4000000
namespace DL
open PySem PySem.Spec PyProof.Rows L2 TL
theorem not_tbl {K : PySem.W.Frag} {H : Hp} {a P : Addr} {vs : List V} (h : SqL K H a vs) (hP : H P = some (.tbl #[])) (kP : K.lookup P = none) : a ≠ P := by
  rintro rfl
  rcases h with h | ⟨o, its, n, h, _⟩
  · rcases h with h | ⟨o, h⟩
    · rw [hP] at h; cases h
    · rw [hP] at h; cases h
  · rw [kP] at h; cases h
theorem tabIn_of {K : PySem.W.Frag} {x : Str} {f c P : Addr} {o1 o2 : Option Addr} {cl cl2 : Value} {fd : FuncData} {s1 s2 : Array (Option Value)} {vs : Array Value} (h1 : PySem.W.nsIn K mainGlobals x = some (some (.ref f))) (h2 : K.lookup f = some ⟨cl, o1, .func fd, s1⟩) (h3 : fd.code = .ref c) (h4 : K.lookup c = some ⟨cl2, o2, .fields vs, s2⟩) (h5 : vs[11]? = some (.ref P)) : PySem.W.tabIn K x = some (c, P) := by
  unfold PySem.W.tabIn
  rw [h1]; dsimp only
  rw [h2]; dsimp only
  rw [h3]; dsimp only
  rw [h4]; dsimp only
  rw [h5]
end DL
set_option Elab.async false
set_option linter.all false
set_option maxRecDepth 100000
set_option maxHeartbeats 4000000
namespace DL
open PySem PySem.Spec PyProof.Rows L2 TL
def spLawT2 (P1 : Addr) (q1 : Str) (P2 : Addr) (q2 : Str) : DSp := fun ds O Q _ => ∃ (ns : List Int), ds = [.slst (ns.map DV.int)] ∧ ns.length ≤ 63 ∧ O P1 = some (.tbl q1) ∧ O P2 = some (.tbl q2) ∧ ∀ O', Q (.bl true) O'
theorem law_spT2 {K : PySem.W.Frag} {H : Hp} {a P1 P2 : Addr} {q1 q2 : Str} {ns : List Int} (hl : ns.length ≤ 63) (hne : P1 ≠ P2) (hP1 : H P1 = some (.tbl #[])) (kP1 : K.lookup P1 = none) (hP2 : H P2 = some (.tbl #[])) (kP2 : K.lookup P2 = none) (h : SqL K H a (ns.map V.int)) :
    liftSp K (spLawT2 P1 q1 P2 q2) [.ref a] H (fun v _ => v = .bl true) fun _ _ _ => False := by
  have n1 := not_tbl h hP1 kP1
  have n2 := not_tbl h hP2 kP2
  have hS : SqL K (fun b => if b = P1 ∨ b = P2 then none else H b) a (ns.map V.int) := by
    have hif : (if a = P1 ∨ a = P2 then none else H a) = H a := if_neg (fun z => z.elim n1 n2)
    rcases h with h | h
    · refine .inl ?_
      rcases h with h | ⟨o, h⟩
      · exact .inl (hif.trans h)
      · exact .inr ⟨o, hif.trans h⟩
    · exact .inr h
  refine ⟨fun b => if b = P1 ∨ b = P2 then none else H b, fun b => if b = P1 then some (.tbl q1) else if b = P2 then some (.tbl q2) else none, [.slst (ns.map DV.int)], fun d _ => d = .bl true, X0, ⟨fun b o e => ?_, fun b c e => ?_⟩, .cons (.slst hS (Reps.of_ints ns)) .nil, ⟨ns, rfl, hl, if_pos rfl, (if_neg (Ne.symm hne)).trans (if_pos rfl), fun _ => rfl⟩, ?_, x0_fin⟩
  · by_cases hb : b = P1 ∨ b = P2
    · rw [if_pos hb] at e; cases e
    · rw [if_neg hb] at e; exact .inl e
  · by_cases hb : b = P1
    · rw [if_pos hb] at e; cases e
      refine ⟨if_pos (.inl hb), #[], hb ▸ hP1, (by trivial), fun pos cv z => ?_⟩
      cases z
    · rw [if_neg hb] at e
      by_cases hb2 : b = P2
      · rw [if_pos hb2] at e; cases e
        refine ⟨if_pos (.inr hb2), #[], hb2 ▸ hP2, (by trivial), fun pos cv z => ?_⟩
        cases z
      · rw [if_neg hb2] at e; cases e
  · rintro d O' rfl v H' F' _ _ r
    cases r; rfl
theorem walkT2 (x y : Str) {l : PySem.W.OpenLaw} {q : Program} {loose : List Str} {XP : (Str → Option Value) → Heap → Prop} {YP : World → Heap → Prop} {d : DefRec} {K : Params → PySem.W.Frag} {k : Nat} (hk : k ≤ 200) (hn : l.most = some 63) (hdf : d.params.defaults = [])
    (hrec : ((recsOf q).find? fun e => e.name == x).isSome = true) (hrec2 : ((recsOf q).find? fun e => e.name == y).isSome = true)
    (hY : ∀ (w : World) (h : Heap), YP w h → (K w.params).In h)
    (F : ∀ (w : World) (mg : Str → Option Value) (fa : Addr) (h : Heap), (K w.params).In h → h.Ns mainGlobals mg → mg d.name = some (.ref fa) →
      ∃ (fd : FuncData) (c P c2 P2 : Addr) (qs qs2 : Str), PySem.W.tabIn (K w.params) x = some (c, P) ∧ (K w.params).lookup P = none ∧ PySem.W.tabIn (K w.params) y = some (c2, P2) ∧ (K w.params).lookup P2 = none ∧ P ≠ P2 ∧ (∀ (s : Shared) (u : Value), BindsTo s fd ⟨[u], []⟩ [("_law_script", u)]) ∧
        ∀ base : Heap, (K w.params).In base → base.Ns mainGlobals mg → LamX.TabB base mg c P → LamX.TabB base mg c2 P2 → FnOk l.prog w (K w.params) mg base CX0 k fa fd ["_law_script"] (liftSp (K w.params) (spLawT2 P qs P2 qs2))) :
    PySem.W.WalkO q loose XP YP l.row.toRowW d [] (fun f vs => PySem.call f vs) := by
  refine Att.attach_callB hn hdf fun w s₀ s₁ mg mb fa o pm cd doc a vs ns G Y ho hd hcd hmg hobj hints hlen hbits hg => ?_
  have KX := hY w _ Y
  obtain ⟨fd, c, P, c2, P2, qs, qs2, ht, kP, ht2, kP2, hne, hb, hF⟩ := F w mg fa _ KX G.T.g hmg
  obtain ⟨dr, hdr⟩ := Option.isSome_iff_exists.mp hrec
  obtain ⟨dr2, hdr2⟩ := Option.isSome_iff_exists.mp hrec2
  obtain ⟨C, hP⟩ := PySem.W.tab_of G.T KX hdr ht
  obtain ⟨C2, hP2⟩ := PySem.W.tab_of G.T KX hdr2 ht2
  have two : ∀ {Pr : Addr × Addr → Prop}, Pr (c, P) → Pr (c2, P2) → ∀ p ∈ [(c, P), (c2, P2)], Pr p := fun h1 h2 p hp => by
    rcases List.mem_cons.mp hp with rfl | hp
    · exact h1
    · rw [List.mem_singleton] at hp; subst hp; exact h2
  refine LamX.law_callTs (cs := [(c, P), (c2, P2)]) (CX := CX0) (sp := liftSp (K w.params) (spLawT2 P qs P2 qs2)) KX G.T.g G.T.b G.T.builtins G.T.nolimit hg (two hP hP2) (two kP kP2) (two C C2) G.T.bmain hobj hints (Nat.le_trans hlen (by decide)) (Room.mono (k := 200) ⟨rfl, by decide, by decide⟩ hk) ?_ hb (fun H hH hS => ?_) fun H e s' z => z
  · intro base h1 h2 h3
    exact hF base h1 h2 (h3 (c, P) (by simp)) (h3 (c2, P2) (by simp))
  · exact law_spT2 hlen hne (hH (c, P) (by simp)) kP (hH (c2, P2) (by simp)) kP2 hS
end DL
set_option Elab.async false
set_option linter.all false
set_option maxRecDepth 100000
namespace W1
open PySem PySem.Spec PyProof.Rows L2 TL DL
def Dice (c : Cell) : Prop := ∃ (ns : List Int) (p m k : Int), c = .lst [.slst (ns.map DV.int), .int p, .int m, .int k] ∧ 0 ≤ p ∧ 0 ≤ m ∧ m < 2147483647 ∧ 0 ≤ k ∧ ns.length ≤ 63
inductive Pure : Nat → DV → Prop
  | non {n} : Pure n .non
  | bl {n} (b) : Pure n (.bl b)
  | int {n} (i) : Pure n (.int i)
  | str {n} (x) : Pure n (.str x)
  | tup {n} {xs : List DV} : (∀ x ∈ xs, Pure n x) → xs.length ≤ 1000000 → Pure (n + 1) (.tup xs)
  | lst {n} {xs : List DV} : (∀ x ∈ xs, Pure n x) → xs.length ≤ 1000000 → Pure (n + 1) (.lst xs)
def Sees (O : Own) (d v : DV) : Prop := d = v ∨ ∃ a xs, d = .ref a ∧ O a = some (.lst xs) ∧ v = .lst xs
end W1
namespace W1
open PySem PySem.Spec PyProof.Rows L2 TL DL
theorem seq_len {O : Own} {d : DV} {xs : List DV} {Q : DVK} (h : seqOf O d = some xs) (hq : Q (.int xs.length) O) : dLen [d] O Q := by
  unfold seqOf at h
  split at h <;> try (cases h; first | done | exact hq)
  rename_i a
  show onL (O a) _
  cases e : O a with
  | none => rw [e] at h; cases h
  | some c =>
    rw [e] at h
    cases c with
    | lst ys => cases h; exact hq
    | _ => cases h
theorem seq_q {O : Own} {d : DV} {xs : List DV} {K : List DV → Prop} (h : seqOf O d = some xs) (hq : K xs) : seqQ O d K := by
  unfold seqOf at h
  split at h <;> try (cases h; first | done | exact hq)
  rename_i a
  show onL (O a) _
  cases e : O a with
  | none => rw [e] at h; cases h
  | some c =>
    rw [e] at h
    cases c with
    | lst ys => cases h; exact hq
    | _ => cases h
theorem seq_ix {O : Own} {d x : DV} {xs : List DV} {i : Int} {Q : DVK} (h : seqOf O d = some xs) (hx : atI xs i = some x) (hq : Q x O) : dIx d (.int i) O Q := by
  have k : seqQ O d fun xs => onSome (atI xs i) fun d => Q d O := seq_q h (onSome_of hx hq)
  unfold seqOf at h
  split at h <;> first | (cases h; done) | exact k
theorem lcW_skip {ow : Bool} {b : DV → DSt → Option DSt} {tt : DTT} {te : DTE} {S : DSt} {Q : DVK} {O : Own} : ∀ (xs acc : List DV),
    (∀ x ∈ xs, ∀ K : Bool → Own → Prop, K false O → onSome (b x S) fun S2 => tt S2 O K) → endLc ow Q acc O → lcW ow b tt te S Q xs acc O
  | [], acc, _, h => h
  | x :: xs, acc, hs, h => by
    unfold lcW
    have h0 := hs x List.mem_cons_self
    obtain ⟨S2, e, _⟩ := onSome_ex (h0 (fun _ _ => True) trivial)
    have h1 := fun K hK => onSome_ex (h0 K hK)
    refine onSome_of e ?_
    have h2 : ∀ K : Bool → Own → Prop, K false O → tt S2 O K := fun K hK => by
      obtain ⟨S3, e3, h3⟩ := h1 K hK
      rw [e] at e3; cases e3; exact h3
    exact h2 _ (ite_f (by decide) (lcW_skip xs acc (fun x hx => hs x (List.mem_cons_of_mem _ hx)) h))
end W1
namespace W1
open PySem PySem.Spec PyProof.Rows L2 TL DL
theorem Sees.seq {O : Own} {d : DV} {xs : List DV} : (Sees O d (.lst xs) → seqOf O d = some xs ∧ tyName O d = some "list") ∧ (Sees O d (.tup xs) → seqOf O d = some xs ∧ tyName O d = some "tuple") := by
  refine ⟨?_, ?_⟩
  · rintro (rfl | ⟨a, ys, rfl, h, e⟩)
    · exact ⟨rfl, rfl⟩
    · cases e
      refine ⟨?_, ?_⟩
      · show (match O a with | some (.lst xs) => some xs | _ => none) = _
        rw [h]
      · show (match O a with | some (.lst _) => some "list" | some (.dK _) => some "dict" | some (.dT _) => some "dict" | _ => none) = _
        rw [h]
  · rintro (rfl | ⟨a, ys, rfl, h, e⟩)
    · exact ⟨rfl, rfl⟩
    · cases e
theorem Sees.flat {O : Own} {d v : DV} (h : Sees O d v) (hv : ∀ xs, v ≠ .lst xs) : d = v := by
  rcases h with h | ⟨a, ys, rfl, h, e⟩
  · exact h
  · exact absurd e (hv _)
theorem like_all {b : DV → DSt → Option DSt} {tt : DTT} {S : DSt} {Q : DVK} {O : Own} {te : DTE} {m : Nat}
    (h : ∀ k : Nat, k < m → ∀ K : Bool → Own → Prop, K false O → onSome (b (.int k) S) fun S2 => tt S2 O K) (hq : Q (.lst []) O) :
    lcW false b tt te S Q ((List.range m).map fun k : Nat => DV.int k) [] O := by
  refine lcW_skip _ _ (fun x hx K hK => ?_) hq
  obtain ⟨k, hk, rfl⟩ := List.mem_map.mp hx
  exact h k (List.mem_range.mp hk) K hK
end W1
namespace W1
open PySem PySem.Spec PyProof.Rows L2 TL DL
def IsName (w : Str) : Prop := ∃ (c : Nat) (l : List Nat), tl w = c :: l ∧ c ∈ tl (Str.ofString "bfhjpqrtvxz") ∧ (∀ x ∈ l, x ∈ tl (Str.ofString "abdefilmnostuwy")) ∧ l.length ≤ 2
def WK (rl : Addr) (row last : Str) : List (Key × DV) := [(.inr "rows", .ref rl), (.inr "row", .str row), (.inr "last", .str last)]
def WCell (rl : Addr) (row last : Str) : Cell := .dK (WK rl row last)
theorem dSeq_mid {t u : DTS} {D : DEnds} {S : DSt} {O : Own} (Mid : DSt → Own → Prop) (h1 : ∀ R : DSt → Own → Prop, (∀ S' O', Mid S' O' → R S' O') → t { D with nx := R } S O) (h2 : ∀ S' O', Mid S' O' → u D S' O') : dSeq t u D S O := h1 _ h2
theorem dSeq_mid2 {t t2 u : DTS} {D : DEnds} {S : DSt} {O : Own} (Mid : DSt → Own → Prop) (h1 : ∀ R : DSt → Own → Prop, (∀ S' O', Mid S' O' → R S' O') → dSeq t t2 { D with nx := R } S O) (h2 : ∀ S' O', Mid S' O' → u D S' O') : dSeq t (dSeq t2 u) D S O := h1 _ h2
abbrev lets : List Nat := tl (Str.ofString "abcdefghijklmnopqrstuvwxyz")
abbrev nums : List Nat := tl (Str.ofString "0123456789")
def Glues (last word : Str) : Prop := ∃ x y, (tl last).getLast? = some x ∧ (tl word).head? = some y ∧ ((x ∈ lets ∧ y ∈ lets) ∨ (x ∈ nums ∧ y ∈ nums) ∨ (last = "<" ∧ y ∈ tl (Str.ofString "=>")))
def Tail (t : Str) : Prop := t = "" ∨ t = " " ∨ t = "  # if x"
def Spare (t : Str) : Prop := t = "" ∨ t = "   " ∨ t = "# end"
end W1
namespace W1
open PySem PySem.Spec PyProof.Rows L2 TL DL
theorem lcW_by {ow : Bool} {b : DV → DSt → Option DSt} {te : DTE} {S : DSt} {Q : DVK} (I : List DV → Own → Prop) : ∀ (xs acc : List DV) (O : Own), I acc O → acc.length + xs.length < 16000000 →
    (∀ x ∈ xs, ∀ (acc : List DV) (O : Own) (K : DVK), I acc O → (∀ y O', I (acc ++ [y]) O' → K y O') → onSome (b x S) fun S2 => te S2 O K) →
    (∀ acc' O, I acc' O → acc'.length = acc.length + xs.length → endLc ow Q acc' O) → lcW ow b dYes te S Q xs acc O
  | [], acc, O, h, _, _, k => k acc O h rfl
  | x :: xs, acc, O, h, hl, hs, k => by
    unfold lcW
    rw [List.length_cons] at hl
    have h1 := hs x List.mem_cons_self acc O (fun y O3 => acc.length < 16000000 ∧ lcW ow b dYes te S Q xs (acc ++ [y]) O3) h (fun y O' h' => ⟨by omega, lcW_by I xs (acc ++ [y]) O' h' (by rw [List.length_append]; simp; omega) (fun x hx => hs x (List.mem_cons_of_mem _ hx)) (fun acc' O h2 h3 => k acc' O h2 (by rw [h3, List.length_append, List.length_cons]; simp; omega))⟩)
    obtain ⟨S2, e, h2⟩ := onSome_ex h1
    exact onSome_of e h2
end W1
set_option Elab.async false
set_option linter.all false
set_option maxRecDepth 100000
set_option maxHeartbeats 2000000
namespace DL
open PySem PySem.Spec PyProof.Rows L2 TL
section
variable {X : Cx} {x n : Str} {c : Value} {i : Nat} {body suite : List Stmt} {b₀ : Stmt} {np pos pos' : Pos} {tb : WX → TS} {ts : Addr → Value → Option Addr → TS} {hds : List ExceptHandler}
def wSnd (K : PySem.W.Frag) (c0 c : Value) (i : Nat) (ts : Addr → Value → Option Addr → TS) (D : Ends) : WX := fun cls d σ H =>
  PySem.W.exmOne K cls c0 = some false ∧ PySem.W.exmOne K cls c = some true ∧ ∀ a, H a = none → ts a cls d { nx := fun σ' H' => D.nx (σ'.set i none) H', rt := D.rt, bk := fun σ' H' => D.bk (σ'.set i none) H', ct := fun σ' H' => D.ct (σ'.set i none) H' } (σ.set i (some (.ref a))) H
theorem ps_try_snd {x0 n0 : Str} {c0 : Value} {suite0 : List Stmt} {np0 pos0 : Pos} (hs : X.stack = X.env :: X.outer) (hf : X.env.frame = some X.env.locals) (hN : X.N.Nodup) (hi : X.N[i]? = some n) (hln : X.env.kindOf n = some .local) (hc0 : Names X x0 c0) (hc : Names X x c)
    (hb : ∀ (W : WX) (pn : List (Addr × Obj)) (xe : Value → Shared → Prop), Takes (X.tr pn xe) W → PassesOwn (model X.prog X.w) X.A X.env xe → PSs (X.tr pn xe) body (tb W))
    (hsu : ∀ (a : Addr) (oe : Obj) (cls : Value) (d : Option Addr) (pn : List (Addr × Obj)), Zc cls d oe → (∃ vs, oe.data = .fields vs) → PSs (X.suite a ((a, oe) :: pn)) (b₀ :: suite) (ts a cls d)) :
    PS X (.Try body (.ExceptHandler (some (.Name x0 np0)) (some n0) suite0 pos0 :: .ExceptHandler (some (.Name x np)) (some n) (b₀ :: suite) pos' :: hds) [] [] pos) (fun D σ H => tb (wSnd X.K c0 c i ts D) D σ H) := by
  refine ⟨fun pins s σ H D I h => ?_⟩
  have ok := I.ok
  have hfr : X.A.frames = some (X.env :: X.outer) := by rw [ok.frames, hs]
  refine wpAny_Try_except ?_
  refine wpAny_mono ((hb (wSnd X.K c0 c i ts D) (X.pn ++ pins) (fun e s₁ => wpAny (model X.prog X.w) X.A (noteFrame e X.env) (fun _ s₂ => wpAny (model X.prog X.w) X.A (setFlight e none) (fun _ s₃ =>
    wpAny (model X.prog X.w) X.A (handleBy e X.env (.ExceptHandler (some (.Name x0 np0)) (some n0) suite0 pos0 :: .ExceptHandler (some (.Name x np)) (some n) (b₀ :: suite) pos' :: hds)) (SP X pins D) X.xe s₃) X.xe s₂) X.xe s₁) (fun u s' xx => ?_) PassesOwn.looking).run [] s σ H D (I.toTry _) h) (fun f s1 hsp => ?_) (fun e s1 he => he)
  · obtain ⟨a, B, sI, pins', σ', H', cls, d, rfl, J', nb, up, sky, na, os, ag, hb0, hb1, hyes⟩ := xx
    have J : L2.Inv X pins σ' H' sI := J'.ofTry ok
    have sky' : Sky B (X.env :: X.outer) a (Zc cls d) X.env.locals s'.heap := by rw [← hs]; exact sky
    show wpAny (model X.prog X.w) X.A (noteFrame (.ref a) X.env) _ _ _
    refine Sky.land Zc.steady hfr hf sky' fun h3 fl3 up3 => ?_
    have J3 : L2.Inv X pins σ' H' { s' with heap := h3 } := J.landed nb fl3.1 (up.trans up3) os ag
    obtain ⟨oe3, vs3, he3, hz3, hd3⟩ := fl3.there
    have nfr : a ∉ frs (X.env :: X.outer) := fun hm => by
      obtain ⟨_, o', e', hnf⟩ := fl3.2.2.1.mem hm
      rw [he3] at e'; cases e'
      exact hnf _ hd3
    have nL : a ≠ X.env.locals := fun z => nfr (List.mem_filterMap.mpr ⟨X.env, List.mem_cons_self, by rw [hf, z]⟩)
    have nF : a ∉ X.fs := fun hm => by
      obtain ⟨e, he, q⟩ := List.mem_filterMap.mp hm
      exact nfr (List.mem_filterMap.mpr ⟨e, List.mem_cons_of_mem _ he, q⟩)
    have S3 := J3.suite he3 hd3 na nL nF
    refine wpAny_handleBy_cons (codeAny_handlers_test ?_) (by intro q; cases q)
    have LT : PySem.W.Looks (model X.prog X.w) h3 (typeOf (.ref a)) cls := fun A Q E s k q => wpAny_typeOf_ref (k _ _ he3) (by rw [hz3.1]; exact q)
    have LM0 := PySem.W.exm_one (M := model X.prog X.w) (J3.kIn) LT hb0
    have test0 : ∀ {Q : Value → Shared → Prop} {E : Value → Shared → Prop}, Q c0 { s' with heap := h3 } → wpAny (model X.prog X.w) (X.A.mark (some (.ref a))) (eval (.Name x0 np0) X.env) Q E { s' with heap := h3 } := fun {Q E} q => by
      obtain ⟨hg, hdbg, hm | ⟨hm, hv, hnn⟩⟩ := hc0
      · exact ld_glob (X := X.suite a ((a, oe3) :: (X.pn ++ pins))) S3 hg hm q hdbg
      · exact ld_blt (X := X.suite a ((a, oe3) :: (X.pn ++ pins))) S3 hg hm hv q hnn hdbg
    refine test0 (LM0.here ?_)
    show wpAny _ X.A (handleBy (.ref a) X.env (.ExceptHandler (some (.Name x np)) (some n) (b₀ :: suite) pos' :: hds)) _ _ _
    refine wpAny_handleBy_cons (codeAny_handlers_test ?_) (by intro q; cases q)
    have LM := PySem.W.exm_one (M := model X.prog X.w) (J3.kIn) LT hb1
    have test : ∀ {Q : Value → Shared → Prop} {E : Value → Shared → Prop}, Q c { s' with heap := h3 } → wpAny (model X.prog X.w) (X.A.mark (some (.ref a))) (eval (.Name x np) X.env) Q E { s' with heap := h3 } := fun {Q E} q => by
      obtain ⟨hg, hdbg, hm | ⟨hm, hv, hnn⟩⟩ := hc
      · exact ld_glob (X := X.suite a ((a, oe3) :: (X.pn ++ pins))) S3 hg hm q hdbg
      · exact ld_blt (X := X.suite a ((a, oe3) :: (X.pn ++ pins))) S3 hg hm hv q hnn hdbg
    refine test (LM.here ?_)
    refine codeAny_handlers_suite_as ?_
    refine HandSPX.lands_againZ fl3 fun h4 fl4 up4 => ?_
    have J4 : L2.Inv X pins σ' H' { s' with heap := h4 } := J.landed nb fl4.1 ((up.trans up3).trans up4) os ag
    obtain ⟨oe4, vs4, he4, hz4, hd4⟩ := fl4.there
    have S4 := J4.suite he4 hd4 na nL nF
    refine store_ok (X := X.suite a ((a, oe4) :: (X.pn ++ pins))) (v := .ref a) S4 hN hi (.inl hln) rfl (fun s5 S5 => ?_) (.inr hln)
    refine wpAny_mono ((hsu a oe4 cls d (X.pn ++ pins) hz4 ⟨_, hd4⟩).run [] s5 _ H' _ S5 (hyes a na)) (fun f s6 hsp => ?_) (fun _ _ z => False.elim z)
    have end_ : ∀ {σ6 : L2.St} {H6 : Hp} {Q : Shared → Prop}, L2.Inv (X.suite a ((a, oe4) :: (X.pn ++ pins))) [] σ6 H6 s6 → (∀ s7, L2.Inv X pins (σ6.set i none) H6 s7 → Q s7) →
        wpAny (model X.prog X.w) X.A (do bindName X.env n .none; unbindBehindTheSuite X.env n pos') (fun _ s7 => Q s7) X.xe s6 := fun {σ6 H6 Q} S6 hq => gone_ok (S6.unsuite ok) hN hi hln hq
    cases f with
    | next =>
      obtain ⟨σ6, H6, S6, q6⟩ := hsp
      exact end_ S6 fun s7 J7 => ⟨_, _, J7, q6⟩
    | brk =>
      obtain ⟨σ6, H6, S6, q6⟩ := hsp
      exact end_ S6 fun s7 J7 => ⟨_, _, J7, q6⟩
    | cont =>
      obtain ⟨σ6, H6, S6, q6⟩ := hsp
      exact end_ S6 fun s7 J7 => ⟨_, _, J7, q6⟩
    | ret u =>
      obtain ⟨v6, σ6, H6, S6, r6, q6⟩ := hsp
      exact end_ S6 fun s7 J7 => ⟨_, _, _, J7, r6, q6⟩
  · cases f with
    | next =>
      obtain ⟨σ', H', J', q⟩ := hsp
      exact wpAny_execs_nil ⟨σ', H', J'.ofTry ok, q⟩
    | brk =>
      obtain ⟨σ', H', J', q⟩ := hsp
      exact ⟨σ', H', J'.ofTry ok, q⟩
    | cont =>
      obtain ⟨σ', H', J', q⟩ := hsp
      exact ⟨σ', H', J'.ofTry ok, q⟩
    | ret u =>
      obtain ⟨v, σ', H', J', r, q⟩ := hsp
      exact ⟨v, σ', H', J'.ofTry ok, r, q⟩
end
section
variable {X : Cx}
def TTsnd (K : PySem.W.Frag) (c0 c : Value) (i m : Nat) (ts : Addr → Value → Option Addr → TS) : (XK → Hp → VK → Prop) → Hp → VK → Prop := fun tl H Q =>
  ∃ E : XK, tl E H Q ∧ ∀ cls d H', E cls d H' → PySem.W.exmOne K cls c0 = some false ∧ PySem.W.exmOne K cls c = some true ∧ ∀ a, H' a = none → ∀ σ : L2.St, σ.length = m → ts a cls d { nx := fun _ _ => False, rt := Q } (σ.set i (some (.ref a))) H'
theorem gives_snd {Ng : List Str} {x a e0 n0 e n q : Str} {suite0 : List Stmt} {C0 : Addr} {p40 p70 : Pos} {sg : Scope} {g CS : Addr} {cdg : Value} {i : Nat} {hds : List ExceptHandler} {b₀ : Stmt} {suite : List Stmt} {ts : Addr → Value → Option Addr → TS} {p1 p2 p3 p4 p7 p8 : Pos}
    (hge0 : sg.names.lookup e0 = some .globalImplicit) (hme0 : X.mg e0 = some (.ref C0)) (hde0 : (e0 == ("__debug__" : Str)) = false) (hge : sg.names.lookup e = some .globalImplicit) (hme : X.mg e = some (.ref CS)) (hde : (e == ("__debug__" : Str)) = false) (hN : Ng.Nodup) (hi : Ng[i]? = some n) (hln : sg.names.lookup n = some .local) (h0 : ∀ f : Addr, (L2.start Ng [V.ref f])[0]? = some (some (V.ref f)))
    (hnx : ∀ a cls d (D D' : Ends) σ H, ts a cls d D σ H → D.rt = D'.rt → (∀ σ H, D.nx σ H → D'.nx σ H) → (∀ σ H, D.bk σ H → D'.bk σ H) → (∀ σ H, D.ct σ H → D'.ct σ H) → ts a cls d D' σ H)
    (hsu : ∀ (f : Addr) (s : Shared) (H : Hp) (a : Addr) (oe : Obj) (cls : Value) (d : Option Addr) (pn : List (Addr × Obj)), Zc cls d oe → (∃ vs, oe.data = .fields vs) → PSs ((cxOf C8.CX0 X.prog X.w X.K X.mg X.base Ng x sg g cdg X.A X.stack s H C8.E0).nox.suite a ((a, oe) :: pn)) (b₀ :: suite) (ts a cls d)) :
    LamX.GivesTo X Ng x sg g cdg [.Try [.Return (some (.Call (.Name a p1) [] [] p2)) p3] (.ExceptHandler (some (.Name e0 p40)) (some n0) suite0 p70 :: .ExceptHandler (some (.Name e p4)) (some n) (b₀ :: suite) p7 :: hds) [] [] p8] a q (TTsnd X.K (.ref C0) (.ref CS) i Ng.length ts) := by
  intro f c' s H Q tl act hc h
  obtain ⟨E, h, hE⟩ := h
  have hgl0 : Gl (cxOf C8.CX0 X.prog X.w X.K X.mg X.base Ng x sg g cdg X.A X.stack s H C8.E0).nox e0 := hge0
  have hgl : Gl (cxOf C8.CX0 X.prog X.w X.K X.mg X.base Ng x sg g cdg X.A X.stack s H C8.E0).nox e := hge
  refine ⟨_, pss_one (ps_try_snd (c0 := .ref C0) (X := (cxOf C8.CX0 X.prog X.w X.K X.mg X.base Ng x sg g cdg X.A X.stack s H C8.E0).nox) (c := .ref CS)
      (tb := fun W D σ H => ∃ Ech : XK, (∀ cls d σ' H', σ'.length = Ng.length → Ech cls d H' → W cls d σ' H') ∧ σ[0]? = some (some (.ref f)) ∧ H c' = some (LamX.CodeO c' q) ∧ tl Ech H D.rt)
      rfl rfl hN hi hln ⟨hgl0, hde0, .inl hme0⟩ ⟨hgl, hde, .inl hme⟩ (fun W pn xe tk _ => ?_) (hsu f s H)), ?_⟩
  · refine ⟨fun pins s' σ H' D I h' => ?_⟩
    obtain ⟨Ech, hW, h1, h2, h3⟩ := h'
    have hp := act (fun cls d _ H => Ech cls d H) pn xe Ech p1 p2 (fun u s' ⟨a, B, sI, pins, σ, H, cls, d, e, I, nb, up, sky, na, os, ag, w⟩ => tk u s' ⟨a, B, sI, pins, σ, H, cls, d, e, I, nb, up, sky, na, os, ag, hW cls d σ H I.len w⟩) (fun _ _ _ _ z => z)
    exact (pss_one (ps_ret (pos := p3) hp)).run pins s' σ H' D I ⟨h1, h2, h3⟩
  · exact ⟨E, fun cls d σ' H' hl w => ⟨(hE cls d H' w).1, (hE cls d H' w).2.1, fun a ha => hnx a cls d _ _ _ _ ((hE cls d H' w).2.2 a ha σ' hl) rfl (fun _ _ z => z.elim) (fun _ _ z => z.elim) (fun _ _ z => z.elim)⟩, h0 f, hc, h⟩
end
variable {XW : DXK} {β : Type}
def dTold2 (TC : Addr → β → Prop) (q : Str) (P : Addr) (i m : Nat) (ts : β → Addr → DTS) (tb : DXK → DTE) (S : DSt) (O : Own) (Q : DVK) : Prop :=
  O P = some (.tbl q) ∧ ∃ XWb : DXK, tb XWb S O Q ∧ ∀ C' fs O', XWb C' fs O' → fs = none ∧ ∃ b : β, TC C' b ∧
    ∀ a, O' a = none → ts b a { nx := fun _ _ => False, rt := Q } ((List.replicate m none).set i (some (.ref a))) O'
def tsN (K : PySem.W.Frag) (TC : Addr → β → Prop) (ts : β → Addr → DTS) (a : Addr) (cls : Value) (d : Option Addr) : TS := fun D σ H => ∃ C' b, cls = .ref C' ∧ d = none ∧ TC C' b ∧ liftS ⟨K, X0, L2.E0⟩ (ts b a) D σ H
theorem tsN_nx {K : PySem.W.Frag} {TC : Addr → β → Prop} {ts : β → Addr → DTS} : ∀ a cls d (D D' : Ends) σ H, tsN K TC ts a cls d D σ H → D.rt = D'.rt → (∀ σ H, D.nx σ H → D'.nx σ H) → (∀ σ H, D.bk σ H → D'.bk σ H) → (∀ σ H, D.ct σ H → D'.ct σ H) → tsN K TC ts a cls d D' σ H := by
  rintro a cls d D D' σ H ⟨C', b, e1, e2, e3, F, O, S, DD, rs, sr, h, fin⟩ h1 h2 h3 h4
  exact ⟨C', b, e1, e2, e3, F, O, S, DD, rs, sr, h, fun S1 O1 q σ1 H1 F1 s s' => h2 _ _ (fin.nx S1 O1 q σ1 H1 F1 s s'), fun v O1 q v1 H1 F1 s s' => h1 ▸ fin.rt v O1 q v1 H1 F1 s s', fun S1 O1 q σ1 H1 F1 s s' => h3 _ _ (fin.bk S1 O1 q σ1 H1 F1 s s'), fun S1 O1 q σ1 H1 F1 s s' => h4 _ _ (fin.ct S1 O1 q σ1 H1 F1 s s')⟩
section
variable {X : Cx}
theorem de_tell2 {TC : Addr → β → Prop} {q : Str} {P C0 C : Addr} {i m : Nat} {call : Expr} {ts : β → Addr → DTS} {tb : DXK → DTE}
    (hTC : ∀ C' b, TC C' b → PySem.W.exmOne X.K (.ref C') (.ref C0) = some false ∧ PySem.W.exmOne X.K (.ref C') (.ref C) = some true)
    (h : PE X call (tLamM q P (TTsnd X.K (.ref C0) (.ref C) i m (tsN X.K TC ts)) (fun E σ H Q => ∃ XWb : DXK, liftE ⟨X.K, XWb, E⟩ (tb XWb) σ H Q))) :
    DE XW X call (dTold2 TC q P i m ts tb) := by
  refine ⟨fun g0 hg0 => PE_imp h ?_⟩
  rintro σ H VQ ⟨F0, O, S, Q, rs, sr, ⟨hP, XWb, h1, h2⟩, fin⟩
  refine ⟨rs.tabF hP, fun c' H1 md => ?_⟩
  obtain ⟨F1, s1⟩ := rs.made hP md
  refine ⟨fun cls d H' => PySem.W.exmOne X.K cls (.ref C0) = some false ∧ PySem.W.exmOne X.K cls (.ref C) = some true ∧ ∀ a, H' a = none → ∀ σ : L2.St, σ.length = m → tsN X.K TC ts a cls d { nx := fun _ _ => False, rt := VQ } (σ.set i (some (.ref a))) H', ⟨XWb, F1, O, S, Q, ⟨s1.rs.fro, s1.rs.own, ?_⟩, sr.mono s1.sub, h1, fun d O' qd v H' F' st rv => (fin.step s1) d O' qd v H' F' (st.up s1.rs) rv⟩, fun _ _ _ z => z⟩
  intro C' fs O' qx d H' F' raw rs0 xat fresh
  obtain ⟨rfl, b, hb, hh⟩ := h2 _ _ _ qx
  obtain ⟨t1, t2⟩ := hTC C' b hb
  have hd : d = none := xat
  subst hd
  refine ⟨t1, t2, fun a ha σ' hl => ⟨C', b, rfl, rfl, hb, F', O', _, { nx := fun _ _ => False, rt := Q }, rs0.low, ?_, hh a ?_, ?_⟩⟩
  · have base : SR X.K F' σ' (List.replicate m none) := ⟨by simp [hl], fun j d e => by
      rw [List.getElem?_replicate] at e
      split at e <;> cases e⟩
    exact base.set i (.ref a)
  · cases e : O' a with
    | none => rfl
    | some c =>
      obtain ⟨o, z⟩ := (rs0.own a c e).2.some
      rw [ha] at z; cases z
  · refine ⟨fun _ _ h => h.elim, fun d O2 q2 v H2 F2 s rv => ?_, fun _ _ h => h.elim, fun _ _ h => h.elim⟩
    exact (fin.step s1) d O2 q2 v H2 F2 (Stp.mk' s1.rs (raw.sub.trans s.sub) s.rs.z (fun b o b1 b2 => let ⟨c1, c2⟩ := raw.keep b o b1 b2; s.keep b o c1 c2) (fun b o b1 b2 b3 => let ⟨c1, c2⟩ := raw.keep b o b1 b2; s.nof b o c1 c2 (raw.nof b o b1 b2 b3))) rv
end
end DL
set_option Elab.async false
set_option linter.all false
set_option maxRecDepth 100000
set_option maxHeartbeats 2000000
namespace DL
open PySem PySem.Spec PyProof.Rows L2 TL
structure LamD (N : List Str) (sc scope : Scope) : Prop where
  kind : scope.kind = .function
  co : scope.isCoroutine = false
  gen : scope.isGenerator = false
  own : ∀ y ∈ scope.names, y.2 ≠ .cell ∧ (y.2 = .local → y.1 ∉ N)
  free : ∀ y ∈ scope.names, y.2 = .free → sc.names.lookup y.1 = some .cell ∨ sc.names.lookup y.1 = some .free
def lamDB (N : List Str) (sc scope : Scope) : Bool :=
  decide (scope.kind = .function) && !scope.isCoroutine && !scope.isGenerator && scope.names.all fun y => !decide (y.2 = .cell) && (!decide (y.2 = .local) || !decide (y.1 ∈ N)) && (!decide (y.2 = .free) || decide (sc.names.lookup y.1 = some .cell) || decide (sc.names.lookup y.1 = some .free))
theorem lamD_by {N : List Str} {sc scope : Scope} (h : lamDB N sc scope = true) : LamD N sc scope := by
  unfold lamDB at h
  simp only [Bool.and_eq_true, Bool.or_eq_true, Bool.not_eq_true', decide_eq_true_eq, decide_eq_false_iff_not, List.all_eq_true] at h
  obtain ⟨⟨⟨h1, h2⟩, h3⟩, h4⟩ := h
  refine ⟨h1, h2, h3, fun y hy => ⟨(h4 y hy).1.1, fun e => ?_⟩, fun y hy e => ?_⟩
  · rcases (h4 y hy).1.2 with z | z
    · exact absurd e z
    · exact z
  · rcases (h4 y hy).2 with (z | z) | z
    · exact absurd e z
    · exact .inl z
    · exact .inr z
theorem LamD.has {X : Cx} {scope : Scope} (L : LamD X.N X.env.scope scope) (ok : X.Ok) : ∀ y ∈ scope.names, y.2 = .free → ∃ c, X.env.cells.lookup y.1 = some c := fun y hy e => by
  rcases L.free y hy e with k | k
  · exact ok.has _ (.inl k)
  · exact ok.has _ (.inr k)
section
variable {X : Cx} {pins : List (Addr × Obj)} {σ : L2.St} {H : Hp} {s : Shared}
theorem lam_madeD {q : Str} {c P : Addr} {params : Arguments} {body e0 : Expr} {v0 : V} {scope : Scope} {pos : Pos} {Q : Value → Shared → Prop} (I : L2.Inv X pins σ H s) (TB : LamX.TabB X.base X.mg c P) (hcode : X.env.code = .ref c) (hq : X.env.qual ++ "<lambda>" = q)
    (hT : TabF H H P q) (hd : params.defaults = [e0]) (hk : params.kw_defaults = []) (he : PE X e0 (fun _ H Q => Q v0 H)) (hfree : ∀ y ∈ scope.names, y.2 = .free → ∃ c, X.env.cells.lookup y.1 = some c)
    (h : ∀ (f c' t : Addr) (u pm doc ctv : Value) (H1 : Hp) (s' : Shared), L2.Inv X pins σ H1 s' → Made q P H c' H1 →
      s'.heap.get? f = some (PySem.W.kdv_obj "<lambda>" q params (.expr body) scope (cloFrom X.env.cells scope.names []) (.ref t) doc pm c' ctv) → H1 f = none → f ∉ frs X.stack → s'.heap.get? t = some (PySem.W.kdv_tup [u]) → H1 t = none → t ∉ frs X.stack → H1 c' = some (LamX.CodeO c' q) → Q (.ref f) s') :
    wpAny (model X.prog X.w) X.A (eval (.Lambda params body scope pos) X.env) Q X.xe s := by
  subst hq
  refine PySem.W.kdv_lam (by rw [hd]; rfl) hk ?_
  rw [hd]
  refine PySem.W.kdv_all1 (thn (he.run pins s σ H (fun v H1 => v = v0 ∧ H1 = H) I ⟨rfl, rfl⟩) fun u s1 ⟨v, H0, I1, r1, ev, eH⟩ => ?_)
  subst ev eH
  refine PySem.W.kdv_all0 ?_
  rw [makeFunction_eq]
  simp only [List.zip_nil_right, List.filterMap_nil, List.isEmpty_nil, if_true, pure_bind, List.isEmpty_cons, Bool.false_eq_true, if_false]
  refine wpAny_bind (wpAny_newTextTuple ?_)
  have I2 : L2.Inv X pins σ H0 { s1 with heap := s1.heap.push (PySem.W.kdv_tup [u]) } := I1.kept (t' := s1.toks) fun b o e => Heap.get?_push_of_some _ e
  have tget : (s1.heap.push (PySem.W.kdv_tup [u])).get? s1.heap.objs.size = some (PySem.W.kdv_tup [u]) := Heap.get?_push_size _ rfl
  have tH : H0 s1.heap.objs.size = none := I1.hok.fresh (Nat.le_refl _)
  have far1 : s1.heap.objs.size ∉ frs X.stack := fun z => by
    rcases List.mem_cons.mp (I1.stkSub _ z) with e | e
    · have h1 := I1.lt
      rw [← e] at h1
      exact absurd h1 (Nat.lt_irrefl _)
    · exact I1.nofs (Nat.le_refl _) e
  obtain ⟨ps, hP, ht, ha⟩ := hT
  have bP := TB.bm.keeps I2.bk
  have hP' := I2.hok P _ hP
  have nPt : P ≠ s1.heap.objs.size := fun z => by rw [z, tH] at hP; cases hP
  have far : ∀ f, (s1.heap.push (PySem.W.kdv_tup [u])).objs.size ≤ f → f ∉ frs X.stack := fun f hf z => by
    rcases List.mem_cons.mp (I2.stkSub _ z) with e | e
    · have h1 := I2.lt
      rw [← e] at h1
      exact absurd h1 (Nat.not_lt.mpr hf)
    · exact I2.nofs hf e
  cases hc : codeAmong pos ps.toList with
  | some cv =>
    obtain ⟨c', rfl, hco⟩ := ha pos cv hc
    exact PySem.W.kdv_makeTailHit (closure_ok hfree) I2.ok.glob (I2.mod.glob.keeps I2.bk) hcode (TB.code.keeps I2.bk) hP' ht hc bP fun ctv doc h' tk hx hsz =>
      h h'.objs.size c' _ u _ doc ctv H0 _ (I2.kept fun b o e => Heap.get?_push_of_some _ (hx b o e)) (.old hco) (Heap.get?_push_size _ rfl) (I2.hok.fresh hsz) (far _ hsz) (Heap.get?_push_of_some _ (hx _ _ tget)) tH far1 hco
  | none =>
    refine PySem.W.kdv_makeTail (closure_ok hfree) I2.ok.glob (I2.mod.glob.keeps I2.bk) hcode (TB.code.keeps I2.bk) hP' ht hc TB.gP bP fun c' ctv doc h' tk hx hge hlt hrec htb => ?_
    obtain ⟨c2, oc, vs, t, e2, hoc, hd2, hv⟩ := hrec
    cases e2
    have hsz := Nat.le_trans hge (Nat.le_of_lt hlt)
    have nC := I2.hok.fresh hge
    have tc : s1.heap.objs.size ≠ c' := Nat.ne_of_lt (Nat.lt_of_lt_of_le (Heap.lt_size tget) hge)
    have eL : (ps ++ #[rawInt pos.line, rawInt pos.col, .ref c']).toList = ps.toList ++ [rawInt pos.line, rawInt pos.col, .ref c'] := by simp
    refine h h'.objs.size c' _ u _ doc ctv _ _ (LamX.inv_table I2 hP (fun b o hb e => Heap.get?_push_of_some _ (hx b o hb e)) (Heap.get?_push_of_some _ htb) hge ⟨oc, vs, t, Heap.get?_push_of_some _ hoc, hd2, hv⟩)
      (.new nC hP (by rw [eL]; exact PySem.TriplesOk_snoc _ _ _ _ ht) fun p' cv hcv => ?_) (Heap.get?_push_size _ rfl) ?_ (far _ hsz) (Heap.get?_push_of_some _ (hx _ _ (fun z => nPt z.symm) tget)) ?_ far1 upd_same
    · rw [eL] at hcv
      exact LamX.among_app _ ht hcv
    · rw [upd_ne (Nat.ne_of_gt hlt), upd_ne (Nat.ne_of_gt (Nat.lt_of_lt_of_le (Heap.lt_size hP') hsz))]
      exact I2.hok.fresh hsz
    · rw [upd_ne tc, upd_ne (fun z => nPt z.symm)]
      exact tH
open LamX in
theorem lam_startD {HZ : Hp} {s1 : Shared} {A : Around} {outer : List Env} {E : XK} {scope : Scope} {f c' : Addr} {h₁ : Heap} {tk : Nat} {m : Str → Option Value} (I : L2.Inv X pins σ H s) (L : LamD X.N X.env.scope scope) (e0 : Env0 X.prog X.w X.K X.mg X.base A outer s1 HZ) (hd : A.handled = none)
    (un : Un (frs X.stack) [] H HZ s.heap s1.heap) (hns : h₁.Ns s1.heap.objs.size m) (kp : ∀ b o, s1.heap.get? b = some o → h₁.get? b = some o) :
    L2.Inv (lamCx X A outer s1 HZ E scope f c') [] σ HZ { s1 with heap := h₁, toks := tk } := by
  have hfree := L.has I.ok
  have cm : ∀ {y c}, (cloFrom X.env.cells scope.names []).lookup y = some c → X.env.cells.lookup y = some c := fun {y c} e => by
    rcases cloFrom_mem (PySem.mem_of_lookup e) with hm | ⟨h1, h2⟩
    · cases hm
    · obtain ⟨c1, hc⟩ := hfree _ h1 rfl
      have hc : X.env.cells.lookup y = some c1 := hc
      have e2 : c = c1 := by
        rw [h2, hc] <;> rfl
      rw [e2]
      exact hc
  have look : ∀ {y}, scope.names.lookup y = some .free → ∃ c, (cloFrom X.env.cells scope.names []).lookup y = some c := fun {y} hl => by
    have hy : (y, NameKind.free) ∈ scope.names := PySem.mem_of_lookup hl
    exact mem_lookup (cloFrom_has (cells := X.env.cells) (acc := []) hy)
  have cellK : ∀ {c : Addr} {v : Option Value}, H c = none → s.heap.IsCell c v → h₁.IsCell c v := fun {c v} n ⟨o, ho, hd⟩ => by
    obtain ⟨sl, q⟩ := un.any ho n (by simp)
    exact ⟨_, kp _ _ q, hd⟩
  have noA : ∀ b : Addr, b ∉ (lamCx X A outer s1 HZ E scope f c').ex := fun b z => absurd (show b ∈ ([] : List Addr) from z) (by simp)
  refine ⟨⟨e0.mod, L.kind, rfl, rfl, Nat.le_refl _, fun y z c e1 e2 => I.ok.inj y z c (cm e1) (cm e2), fun y hy => ?_, fun y c z _ => ?_, fun _ => hd, Around.frames_deeper e0.frames, .inr ⟨rfl, rfl⟩, fun b z => absurd z (noA b), e0.bs, e0.bsz, fun b _ _ => noA b,
      fun b z => absurd z (noA b), e0.funs, e0.frf⟩,
    rfl, e0.bare, Un.kept kp, ⟨_, hns, fun i y v e1 e2 e3 => ?_⟩, fun y c e => ?_, e0.hok.fresh (Nat.le_refl _), fun y c e => ?_, fun q hq => absurd (show q ∈ ([] : List (Addr × Obj)) ++ [] from hq) (by simp), e0.hok.kept kp, I.len⟩
  · have hy : scope.names.lookup y = some .cell ∨ scope.names.lookup y = some .free := hy
    rcases hy with hy | hy
    · exact absurd rfl (L.own _ (PySem.mem_of_lookup hy)).1
    · exact look hy
  · have z : false = true := z
    cases z
  · have e3 : Vis scope y := e3
    rcases e3 with k | k | k
    · exact absurd (List.mem_of_getElem? e1) ((L.own _ (PySem.mem_of_lookup k)).2 rfl)
    · exact absurd rfl (L.own _ (PySem.mem_of_lookup k)).1
    · obtain ⟨m, hn, hl⟩ := I.loc
      have hvis : Vis X.env.scope y := (L.free _ (PySem.mem_of_lookup k) rfl).elim (fun k => .inr (.inl k)) (fun k => .inr (.inr k))
      obtain ⟨w', r, q⟩ := hl i y v e1 e2 hvis
      obtain ⟨c2, h2⟩ := look k
      refine ⟨w', r, .inr ⟨.inr k, c2, h2, ?_⟩⟩
      have c1 := cm h2
      rcases q with ⟨k', _⟩ | ⟨_, c3, e', z⟩
      · have k' : X.env.scope.names.lookup y = some .local := k'
        rcases L.free _ (PySem.mem_of_lookup k) rfl with k2 | k2 <;> rw [show X.env.scope.names.lookup y = _ from k2] at k' <;> cases k'
      · rw [c1] at e'
        cases e'
        exact cellK (I.freeC y _ c1) z
  · obtain ⟨w', z⟩ := I.cell y c (cm e)
    exact ⟨w', cellK (I.freeC y c (cm e)) z⟩
  · obtain ⟨v, o, ho, hd⟩ := I.cell y c (cm e)
    exact un.free c o ho (I.freeC y c (cm e)) (by simp)
open LamX in
theorem pe_actD {CXg : CXT} {Eg : XK} {Ng : List Str} {qg y : Str} {sg : Scope} {g f c' t : Addr} {u cdg pm doc ctv : Value} {params : Arguments} {body : Expr} {scope : Scope} {k i : Nat} {a : Str} {pn : List (Addr × Obj)} {xe : Value → Shared → Prop} {W : WX} {E : XK} {tb : TE} {p1 p2 : Pos}
    (I : L2.Inv X pins σ H s) (L : LamD X.N X.env.scope scope) (hf : s.heap.get? f = some (PySem.W.kdv_obj "<lambda>" (X.env.qual ++ "<lambda>") params (.expr body) scope (cloFrom X.env.cells scope.names []) (.ref t) doc pm c' ctv)) (hfn : H f = none) (hfr : f ∉ frs X.stack)
    (htg : s.heap.get? t = some (PySem.W.kdv_tup [u])) (htn : H t = none) (htr : t ∉ frs X.stack)
    (hbind : ∀ s2 : Shared, s2.heap.get? t = some (PySem.W.kdv_tup [u]) → BindsTo s2 (PySem.W.kdv_fn "<lambda>" (X.env.qual ++ "<lambda>") params (.expr body) scope (cloFrom X.env.cells scope.names []) (.ref t) doc pm (.ref c') ctv) ⟨[], []⟩ [(y, u)]) (hy : scope.names.lookup y = some .local)
    (tk : Takes ((cxOf CXg X.prog X.w X.K X.mg X.base Ng qg sg g cdg X.A X.stack s H Eg).tr pn xe) W) (hW : ∀ cls d σ' H', E cls d H' → W cls d σ' H') (hr : Room (k + 1) (X.A.deeper (envOfC qg sg s.heap.objs.size g cdg)))
    (hbody : ∀ (A : Around) (outer : List Env) (s : Shared) (H : Hp), Room k (A.deeper (lamEnv X scope s.heap.objs.size f c')) → PE (lamCx X A outer s H E scope f c') body tb)
    (hN : Ng[i]? = some a) (hv : Vis sg a) (hd : (a == ("__debug__" : Str)) = false := by decide) (hcd : (a == ("__classdict__" : Str)) = false := by decide) :
    PE ((cxOf CXg X.prog X.w X.K X.mg X.base Ng qg sg g cdg X.A X.stack s H Eg).tr pn xe) (.Call (.Name a p1) [] [] p2)
      (fun σZ HZ Q => σZ[i]? = some (some (.ref f)) ∧ HZ c' = some (CodeO c' (X.env.qual ++ "<lambda>")) ∧ tb σ HZ Q) := by
  refine ⟨fun pinsZ sZ σZ HZ Q IZ h => ?_⟩
  obtain ⟨hs, hc, ht⟩ := h
  refine wpAny_Call_Name_kw (thn ((pe_var (pos := p1) (i := i) hN hv hd hcd).run pinsZ sZ σZ HZ (fun v H1 => v = .ref f ∧ H1 = HZ) IZ ⟨.ref f, hs, rfl, rfl⟩) fun u' s1 ⟨v, H1, I1, r1, q1⟩ => ?_)
  obtain ⟨ev, eH⟩ := q1
  subst ev
  rw [eH] at I1
  obtain rfl : u' = Value.ref f := r1
  have of1 := I1.base.keep f _ hf hfn hfr (fun z => nomatch (show f ∈ ([] : List Addr) from z))
  have ot1 := I1.base.keep t _ htg htn htr (fun z => nomatch (show t ∈ ([] : List Addr) from z))
  refine PySem.W.callWith_F0 ⟨_, _, _, _, of1⟩ ?_
  have un : Un (frs X.stack) [] H HZ s.heap s1.heap := I1.base
  obtain ⟨⟨oc, vs, tt, hoc, hdc, hvc⟩, _, _⟩ := I1.hok c' _ hc
  have rc : codeAny (model X.prog X.w) (X.A.deeper (envOfC qg sg s.heap.objs.size g cdg)) (.call (.ref f) ⟨[], []⟩) (CR (L2.CX X.prog X.w) (envOfC qg sg s.heap.objs.size g cdg :: X.stack) X.prog X.w HZ s1 Q E) s1 := by
    refine PySem.W.kla_callFunE hr.depth of1 rfl L.co L.gen rfl ⟨c', oc, vs, tt, rfl, hoc, hdc, hvc⟩ ?_
    refine hbind s1 ot1 _ _ _ _ ?_
    refine wpAny_newFunctionEnv (fun y hy => (L.own y hy).1) (fun y' hy' => ?_) (fun h₁ hns hsb => ⟨I1.nolimit.fresh _ hsb, ?_⟩) L.kind
    · rw [List.mem_singleton] at hy'; subst hy'; exact hy
    show codeAny _ _ (.expr body (lamEnv X scope s1.heap.objs.size f c')) _ _
    have kp : ∀ b o, s1.heap.get? b = some o → h₁.get? b = some o := fun b o e => hsb.extBut b o (Nat.ne_of_lt (Heap.lt_size e)) (Heap.get?_push_of_some _ e)
    have J : L2.Inv (lamCx X (X.A.deeper (envOfC qg sg s.heap.objs.size g cdg)) (envOfC qg sg s.heap.objs.size g cdg :: X.stack) s1 HZ E scope f c') [] σ HZ { s1 with heap := h₁, toks := s1.toks + ([(y, u)] : List (Str × Value)).length } :=
      lam_startD I L I1.env0 hr.hd un hns kp
    refine PySem.W.kla_codeExpr (wpAny_mono ((hbody _ _ s1 HZ (hr.deeper _)).run [] _ _ HZ Q J ht) (fun v s' hq => ?_) fun e s' hq => hq)
    obtain ⟨w', H', J', rv, q⟩ := hq
    exact ⟨w', H', J'.os, J'.bare, J'.base, J'.hok, rv, q⟩
  have hx : Passes (L2.CX X.prog X.w) ((cxOf CXg X.prog X.w X.K X.mg X.base Ng qg sg g cdg X.A X.stack s H Eg).tr pn xe) E := passes_call tk hW
  refine wpAny_call (codeAny_mono rc fun r s' hq => ?_)
  cases r with
  | error e => exact hx pinsZ σZ HZ s1 e s' I1 hq
  | ok fl =>
    cases fl with
    | ret u => exact I1.after hq
    | next => exact False.elim hq
    | brk => exact False.elim hq
    | cont => exact False.elim hq
theorem pe_lamMD {TT : (XK → Hp → VK → Prop) → Hp → VK → Prop} {x a q y : Str} {g c P : Addr} {k : Nat} {pg : Arguments} {bg : List Stmt} {sg : Scope} {dV kV doc pm cdv ct oc : Value} {an od : Option Addr} {osl : Array (Option Value)} {Ng : List Str}
    {params : Arguments} {body e0 : Expr} {v0 : V} {scope : Scope} {t : XK → TE} {p lpos pos : Pos} (hg : Gl X x) (hm : X.mg x = some (.ref g)) (hk : PySem.W.keepIn X.K (.ref g) = true)
    (lk : X.K.lookup g = some ⟨oc, od, .func (PySem.W.fnOf x x pg bg sg dV kV doc pm an cdv ct), osl⟩) (hcg : PySem.W.codeIn X.K cdv x = true) (hb : L2.Binds X.K (PySem.W.fnOf x x pg bg sg dV kV doc pm an cdv ct) [a] []) (Sg : FnScope Ng [a] sg) (hNg : Ng[0]? = some a) (hva : Vis sg a)
    (hq : X.env.qual ++ "<lambda>" = q) (hG : LamX.GivesTo X Ng x sg g cdv bg a q TT)
    (TB : LamX.TabB X.base X.mg c P) (hcode : X.env.code = .ref c) (hr : Room (k + 2) X.A) (L : LamD X.N X.env.scope scope) (hdd : params.defaults = [e0]) (hkd : params.kw_defaults = []) (he : PE X e0 (fun _ H Q => Q v0 H)) (hy : scope.names.lookup y = some .local)
    (hbind : ∀ (q : Str) (cl : List (Str × Addr)) (t : Addr) (u doc pm cv ctv : Value) (s : Shared), s.heap.get? t = some (PySem.W.kdv_tup [u]) → BindsTo s (PySem.W.kdv_fn "<lambda>" q params (.expr body) scope cl (.ref t) doc pm cv ctv) ⟨[], []⟩ [(y, u)])
    (hbody : ∀ (A : Around) (outer : List Env) (s : Shared) (H : Hp) (E : XK) (f c' : Addr), Room k (A.deeper (LamX.lamEnv X scope s.heap.objs.size f c')) → PE (LamX.lamCx X A outer s H E scope f c') body (t E))
    (hdb : (x == ("__debug__" : Str)) = false := by decide) (hd : (a == ("__debug__" : Str)) = false := by decide) (hcd : (a == ("__classdict__" : Str)) = false := by decide) :
    PE X (.Call (.Name x p) [.Lambda params body scope lpos] [] pos) (tLamM q P TT t) := by
  subst hq
  refine ⟨fun pins s σ H Q I h => ?_⟩
  refine wpAny_Call_Name_kw (ld_glob I hg hm ?_ hdb)
  refine PySem.W.callWith_K (h₀ := X.base) I.ok.mod.kin hk ?_ (by rfl) (by rfl)
  show wpAny _ _ (spliced ((false, eval (.Lambda params body scope lpos) X.env) :: backTo pos (starEach [] X.env))) _ _ s
  refine Calls.spliced_cons (lam_madeD I TB hcode rfl h.1 hdd hkd he (L.has I.ok) fun f c' t u pm' doc' ctv H1 s' I1 md hf hfn hfr htg htn htr hco => ?_)
  refine Calls.spliced_nil ⟨I1.kIn, ?_⟩
  refine wpAny_call (codeAny_mono (LamX.run_ofS (CX := C8.CX0) (E := C8.E0) (Q := Q) (N := Ng) (ps := [a]) (us := [.ref f]) (vs := [.ref f]) lk hcg Sg hr I1.env0 (hb s' [.ref f] I1.kIn rfl) (.cons rfl .nil) rfl fun hr' => ?_) fun r s2 hq => ?_)
  · obtain ⟨t', ht', hq'⟩ := hG f c' s' H1 Q (fun E H' Q' => _ ) (fun W pn xe E p1 p2 tk hW => pe_actD (i := 0) I1 L hf hfn hfr htg htn htr (fun s2 h2 => hbind _ _ _ _ _ _ _ _ s2 h2) hy tk hW hr' (fun A outer s H hr2 => hbody A outer s H E f c' hr2) hNg hva hd hcd) hco (h.2 c' H1 md)
    exact ⟨t', ht'.nox, hq'⟩
  · cases r with
    | error e => exact (show False from hq).elim
    | ok fl =>
      cases fl with
      | ret u => exact I1.after hq
      | next => exact False.elim hq
      | brk => exact False.elim hq
      | cont => exact False.elim hq
end
end DL
set_option Elab.async false
set_option linter.all false
set_option maxRecDepth 100000
set_option maxHeartbeats 2000000
namespace DL
open PySem PySem.Spec PyProof.Rows L2 TL
variable {XW : DXK} {β : Type}
section
variable {X : Cx}
theorem de_told2 {TC : Addr → β → Prop} {x a e0 n0 e n q : Str} {st : Stmt} {suite0 : List Stmt} {p40 p70 : Pos} {g c P C0 C : Addr} {k : Nat} {fd : FuncData} {Ng : List Str} {params : Arguments} {body : Expr} {scope : Scope} {p lpos pos p1 p2 p3 p4 p7 p8 : Pos} {i : Nat} {hds : List ExceptHandler} {b₀ : Stmt} {suite : List Stmt} {ts : β → Addr → DTS} {tb : DXK → DTE}
    (F : Fun X.K x x st g fd) (hb : L2.Binds X.K fd [a] []) (hm : X.mg x = some (.ref g)) (Sg : FnScope Ng [a] (defScope st))
    (hst : defBody st = [.Try [.Return (some (.Call (.Name a p1) [] [] p2)) p3] (.ExceptHandler (some (.Name e0 p40)) (some n0) suite0 p70 :: .ExceptHandler (some (.Name e p4)) (some n) (b₀ :: suite) p7 :: hds) [] [] p8])
    (hme0 : X.mg e0 = some (.ref C0)) (hme : X.mg e = some (.ref C)) (hTC : ∀ C' b, TC C' b → PySem.W.exmOne X.K (.ref C') (.ref C0) = some false ∧ PySem.W.exmOne X.K (.ref C') (.ref C) = some true)
    (hsu : ∀ (cdv : Value) (f : Addr) (s : Shared) (H : Hp) (a : Addr) (oe : Obj) (C' : Addr) (b : β) (pn : List (Addr × Obj)), TC C' b → Zc (.ref C') none oe → (∃ vs, oe.data = .fields vs) → DSs X0 ((cxOf C8.CX0 X.prog X.w X.K X.mg X.base Ng x (defScope st) g cdv X.A X.stack s H C8.E0).nox.suite a ((a, oe) :: pn)) (b₀ :: suite) (ts b a))
    (hq : X.env.qual ++ "<lambda>" = q) (TB : LamX.TabB X.base X.mg c P) (hcode : X.env.code = .ref c) (hr : Room (k + 2) X.A) (L : LamX.LamS X.env.scope scope) (hdef : defaultsOf params X.env = ([], []))
    (hbind : ∀ (q : Str) (cl : List (Str × Addr)) (pm cv ctv : Value), bindArgs (PySem.W.kla_fn "<lambda>" q params body scope cl pm cv ctv) ⟨[], []⟩ = pure [])
    (hbody : ∀ (XWb : DXK) (A : Around) (outer : List Env) (s : Shared) (H : Hp) (E : XK) (f c' : Addr), Room k (A.deeper (LamX.lamEnv X scope s.heap.objs.size f c')) → DE XWb (LamX.lamCx X A outer s H E scope f c') body (tb XWb))
    (hge0 : (defScope st).names.lookup e0 = some .globalImplicit := by rfl) (hge : (defScope st).names.lookup e = some .globalImplicit := by rfl) (hN : Ng.Nodup := by decide) (hi : Ng[i]? = some n := by rfl) (hln : (defScope st).names.lookup n = some .local := by rfl) (hNg : Ng[0]? = some a := by rfl) (hva : Vis (defScope st) a := by first | exact .inl rfl | exact .inr (.inl rfl) | exact .inr (.inr rfl))
    (h0 : ∀ f : Addr, (L2.start Ng [V.ref f])[0]? = some (some (V.ref f)) := by intro f; rfl)
    (hg : Gl X x := by rfl) (hdb : (x == ("__debug__" : Str)) = false := by decide) (hd : (a == ("__debug__" : Str)) = false := by decide) (hcd : (a == ("__classdict__" : Str)) = false := by decide) (hde0 : (e0 == ("__debug__" : Str)) = false := by decide) (hde : (e == ("__debug__" : Str)) = false := by decide) :
    DE XW X (.Call (.Name x p) [.Lambda params body scope lpos] [] pos) (dTold2 TC q P i Ng.length ts tb) := by
  obtain ⟨oc, od, kV, doc, pm, an, cdv, ct, osl, rfl, lk, hcg⟩ := F.ex
  rw [hst] at lk hb
  refine de_tell2 hTC (pe_lamM (t := fun E σ H Q => ∃ XWb : DXK, liftE ⟨X.K, XWb, E⟩ (tb XWb) σ H Q) hg hm F.kp lk hcg hb Sg hNg hva hq
    (gives_snd (ts := tsN X.K TC ts) (i := i) hge0 hme0 hde0 hge hme hde hN hi hln h0 tsN_nx (fun f s H a oe cls d pn hz hf => ?_)) TB hcode hr L hdef hbind (fun A outer s H E f c' hr2 => ?_) hdb hd hcd)
  · refine ⟨fun pins s' σ H' D I h => ?_⟩
    obtain ⟨C', b, rfl, rfl, hb', h⟩ := h
    exact ((hsu cdv f s H a oe C' b pn hb' hz hf).ps (X0, L2.E0) (good_of (takesL) fun _ _ _ h => h)).run pins s' σ H' D I h
  · refine ⟨fun pins s' σ H' Q I h => ?_⟩
    obtain ⟨XWb, h⟩ := h
    exact ((hbody XWb A outer s H E f c' hr2).pe (XWb, E) (good_of (takes_of rfl rfl rfl rfl) fun _ _ _ h => h)).run pins s' σ H' Q I h
theorem de_told2D {y : Str} {e0x : Expr} {v0 : V} {TC : Addr → β → Prop} {x a e0 n0 e n q : Str} {st : Stmt} {suite0 : List Stmt} {p40 p70 : Pos} {g c P C0 C : Addr} {k : Nat} {fd : FuncData} {Ng : List Str} {params : Arguments} {body : Expr} {scope : Scope} {p lpos pos p1 p2 p3 p4 p7 p8 : Pos} {i : Nat} {hds : List ExceptHandler} {b₀ : Stmt} {suite : List Stmt} {ts : β → Addr → DTS} {tb : DXK → DTE}
    (F : Fun X.K x x st g fd) (hb : L2.Binds X.K fd [a] []) (hm : X.mg x = some (.ref g)) (Sg : FnScope Ng [a] (defScope st))
    (hst : defBody st = [.Try [.Return (some (.Call (.Name a p1) [] [] p2)) p3] (.ExceptHandler (some (.Name e0 p40)) (some n0) suite0 p70 :: .ExceptHandler (some (.Name e p4)) (some n) (b₀ :: suite) p7 :: hds) [] [] p8])
    (hme0 : X.mg e0 = some (.ref C0)) (hme : X.mg e = some (.ref C)) (hTC : ∀ C' b, TC C' b → PySem.W.exmOne X.K (.ref C') (.ref C0) = some false ∧ PySem.W.exmOne X.K (.ref C') (.ref C) = some true)
    (hsu : ∀ (cdv : Value) (f : Addr) (s : Shared) (H : Hp) (a : Addr) (oe : Obj) (C' : Addr) (b : β) (pn : List (Addr × Obj)), TC C' b → Zc (.ref C') none oe → (∃ vs, oe.data = .fields vs) → DSs X0 ((cxOf C8.CX0 X.prog X.w X.K X.mg X.base Ng x (defScope st) g cdv X.A X.stack s H C8.E0).nox.suite a ((a, oe) :: pn)) (b₀ :: suite) (ts b a))
    (hq : X.env.qual ++ "<lambda>" = q) (TB : LamX.TabB X.base X.mg c P) (hcode : X.env.code = .ref c) (hr : Room (k + 2) X.A) (L : LamD X.N X.env.scope scope) (hdd : params.defaults = [e0x]) (hkd : params.kw_defaults = []) (he : PE X e0x (fun _ H Q => Q v0 H)) (hy : scope.names.lookup y = some .local)
    (hbind : ∀ (q : Str) (cl : List (Str × Addr)) (t : Addr) (u doc pm cv ctv : Value) (s : Shared), s.heap.get? t = some (PySem.W.kdv_tup [u]) → BindsTo s (PySem.W.kdv_fn "<lambda>" q params (.expr body) scope cl (.ref t) doc pm cv ctv) ⟨[], []⟩ [(y, u)])
    (hbody : ∀ (XWb : DXK) (A : Around) (outer : List Env) (s : Shared) (H : Hp) (E : XK) (f c' : Addr), Room k (A.deeper (LamX.lamEnv X scope s.heap.objs.size f c')) → DE XWb (LamX.lamCx X A outer s H E scope f c') body (tb XWb))
    (hge0 : (defScope st).names.lookup e0 = some .globalImplicit := by rfl) (hge : (defScope st).names.lookup e = some .globalImplicit := by rfl) (hN : Ng.Nodup := by decide) (hi : Ng[i]? = some n := by rfl) (hln : (defScope st).names.lookup n = some .local := by rfl) (hNg : Ng[0]? = some a := by rfl) (hva : Vis (defScope st) a := by first | exact .inl rfl | exact .inr (.inl rfl) | exact .inr (.inr rfl))
    (h0 : ∀ f : Addr, (L2.start Ng [V.ref f])[0]? = some (some (V.ref f)) := by intro f; rfl)
    (hg : Gl X x := by rfl) (hdb : (x == ("__debug__" : Str)) = false := by decide) (hd : (a == ("__debug__" : Str)) = false := by decide) (hcd : (a == ("__classdict__" : Str)) = false := by decide) (hde0 : (e0 == ("__debug__" : Str)) = false := by decide) (hde : (e == ("__debug__" : Str)) = false := by decide) :
    DE XW X (.Call (.Name x p) [.Lambda params body scope lpos] [] pos) (dTold2 TC q P i Ng.length ts tb) := by
  obtain ⟨oc, od, kV, doc, pm, an, cdv, ct, osl, rfl, lk, hcg⟩ := F.ex
  rw [hst] at lk hb
  refine de_tell2 hTC (pe_lamMD (t := fun E σ H Q => ∃ XWb : DXK, liftE ⟨X.K, XWb, E⟩ (tb XWb) σ H Q) hg hm F.kp lk hcg hb Sg hNg hva hq
    (gives_snd (ts := tsN X.K TC ts) (i := i) hge0 hme0 hde0 hge hme hde hN hi hln h0 tsN_nx (fun f s H a oe cls d pn hz hf => ?_)) TB hcode hr L hdd hkd he hy hbind (fun A outer s H E f c' hr2 => ?_) hdb hd hcd)
  · refine ⟨fun pins s' σ H' D I h => ?_⟩
    obtain ⟨C', b, rfl, rfl, hb', h⟩ := h
    exact ((hsu cdv f s H a oe C' b pn hb' hz hf).ps (X0, L2.E0) (good_of (takesL) fun _ _ _ h => h)).run pins s' σ H' D I h
  · refine ⟨fun pins s' σ H' Q I h => ?_⟩
    obtain ⟨XWb, h⟩ := h
    exact ((hbody XWb A outer s H E f c' hr2).pe (XWb, E) (good_of (takes_of rfl rfl rfl rfl) fun _ _ _ h => h)).run pins s' σ H' Q I h
end
end DL
set_option Elab.async false
set_option linter.all false
set_option maxRecDepth 100000
set_option maxHeartbeats 1000000
namespace DL
open PySem PySem.Spec PyProof.Rows L2 TL
variable {XW : DXK}
theorem RS0.xd {K : PySem.W.Frag} {F H : Hp} {O : Own} {dx : Addr} {o : HO} (r : RS0 K F O H) (hf : F dx = none) (ho : O dx = none) : RS0 K F O (upd H dx o) := by
  refine ⟨fun b u e => ?_, fun b c e => ?_⟩
  · have hb : b ≠ dx := fun z => by subst z; rw [hf] at e; cases e
    rw [upd_ne hb]; exact r.fro b u e
  · have hb : b ≠ dx := fun z => by subst z; rw [ho] at e; cases e
    obtain ⟨h1, h2⟩ := r.own b c e
    exact ⟨h1, h2.mono (Sub.refl _) (upd_ne hb)⟩
def dRaise (XW : DXK) (C : Addr) (n1 n2 n3 n4 : Str) (t : DTA) (D : DEnds) (S : DSt) (O : Own) : Prop := t S O fun ds O1 => ∃ d1 d2 d3 d4, ds = [d1, d2, d3, d4] ∧ XW C (some [(n4, d4), (n3, d3), (n2, d2), (n1, d1)]) O1
def onX (c : Option Cell) (K : List (Str × DV) → Prop) : Prop :=
  match c with
  | some (.xd fs) => K fs
  | _ => False
theorem onX_e1 {fs : List (Str × DV)} {K : List (Str × DV) → Prop} : onX (some (.xd fs)) K = K fs := rfl
def dXf (a dd : Addr) (f : Str) (td : DTE) (S : DSt) (O : Own) (Q : DVK) : Prop := td S O (kRef fun a' O1 => a' = a ∧ onX (O1 dd) fun fs => onSome (fs.lookup f) fun d => Q d O1)
end DL
set_option Elab.async false
set_option linter.all false
set_option maxRecDepth 100000
namespace DL
open PySem PySem.Spec PyProof.Rows L2 TL
variable {XW : DXK}
def dChain (r r' : DR2) (ta tb tc : DTE) (S : DSt) (O : Own) (Q : DVK) : Prop := ta S O fun x O1 => tb S O1 fun y O2 => r x y O2 (kBl fun k O3 => if k = true then tc S O3 fun z O4 => r' y z O4 Q else Q (.bl false) O3)
theorem kBl_e {Q : Bool → Own → Prop} {b : Bool} {O : Own} : kBl Q (.bl b) O = Q b O := rfl
theorem liftChain {K : KG} {r r' : DR2} {ta tb tc : DTE} {σ : L2.St} {H : Hp} {VQ : VK} (h : liftE K (dChain r r' ta tb tc) σ H VQ) : tChain (liftR2 K r) (liftR2 K r') (liftE K ta) (liftE K tb) (liftE K tc) σ H VQ := by
  obtain ⟨F, O, S, Q, rs, sr, h, fin⟩ := h
  refine ⟨F, O, S, _, rs, sr, h, fun dx O1 h1 x H1 F1 s1 rx => ⟨F1, O1, S, _, s1.rs, sr.mono s1.sub, h1, fun dy O2 h2 y H2 F2 s2 ry => ⟨F2, O2, dx, dy, _, s2.rs, rx.mono s2.sub, ry, h2, fun dz O3 h3 z H3 F3 s3 rz => ?_⟩⟩⟩
  have s123 := (s1.trans s2).trans s3
  cases rz with
  | bl b =>
    refine ⟨b, rfl, ?_⟩
    rw [kBl_e] at h3
    cases b with
    | true =>
      rw [if_pos rfl] at h3 ⊢
      exact ⟨F3, O3, S, _, s3.rs, sr.mono s123.sub, h3, fun dw O4 h4 u H4 F4 s4 rw_ => ⟨F4, O4, dy, dw, Q, s4.rs, ry.mono (s3.sub.trans s4.sub), rw_, h4, fin.step (s123.trans s4)⟩⟩
    | false =>
      rw [if_neg (by decide)] at h3 ⊢
      exact fin _ _ h3 _ _ _ s123 (.bl false)
  | _ => exact h3.elim
section
variable {X : Cx} {a b c : Expr} {ta tb tc : DTE} {pos : Pos} {r r' : DR2} {op op' : CmpOp}
theorem de_chain (ho : OpD X (compareOp op) r) (ho' : OpD X (compareOp op') r') (ha : DE XW X a ta) (hb : DE XW X b tb) (hc : DE XW X c tc) (hm : lastMarks [op, op'] [b, c] = false := by with_unfolding_all rfl) : DE XW X (.Compare a [op, op'] [b, c] pos) (dChain r r' ta tb tc) :=
  ⟨fun g hg => PE_imp (pe_chain (ho.op g) (ho'.op g) (ha.pe g hg) (hb.pe g hg) (hc.pe g hg) hm) fun _ _ _ h => liftChain h⟩
theorem dt_chain (ho : OpD X (compareOp op) r) (ho' : OpD X (compareOp op') r') (ha : DE XW X a ta) (hb : DE XW X b tb) (hc : DE XW X c tc) (hm : lastMarks [op, op'] [b, c] = false := by with_unfolding_all rfl) : DT XW X (.Compare a [op, op'] [b, c] pos) (dTest (dChain r r' ta tb tc)) := by
  refine ⟨fun g hg => PT_imp (pt_chain (ho.op g) (ho'.op g) (ha.pe g hg) (hb.pe g hg) (hc.pe g hg) hm) fun σ H VQ h => ?_⟩
  obtain ⟨F, O, S, Q, rs, sr, h, fin⟩ := h
  refine liftChain ⟨F, O, S, _, rs, sr, h, fun d O1 h1 v H1 F1 s1 rv => ?_⟩
  cases rv with
  | bl b => exact ⟨b, rfl, fin b O1 h1 H1 F1 s1⟩
  | _ => exact h1.elim
end
def dLeS : DV → DV → Own → DVK → Prop
  | .str i, .str j, O, Q => Q (.bl (!decide (j.cps.toList < i.cps.toList))) O
  | _, _, _, _ => False
theorem od_leS {X : Cx} : OpD X (compareOp .LtE) dLeS := by
  refine ⟨fun g => OpR_imp op_le_str ?_⟩
  rintro x y H VQ ⟨F, O, dx, dy, Q, rs, rx, ry, h, fin⟩
  unfold dLeS at h
  split at h
  · cases rx; cases ry
    exact ⟨_, _, rfl, rfl, fin _ _ h _ _ F (.refl rs) (.bl _)⟩
  · exact h.elim
def dLenD : List DV → Own → DVK → Prop
  | [.ref a], O, Q => onK (O a) fun es => Q (.int es.length) O
  | _, _, _ => False
theorem cd_lenD {X : Cx} : CallD X (.builtin "len") dLenD := by
  refine ⟨fun g0 => CallR_imp call_lenD ?_⟩
  rintro vs H VQ ⟨F, O, ds, Q, rs, rr, h, fin⟩
  unfold dLenD at h
  split at h
  · obtain ⟨v, rfl, r⟩ := rr.one
    cases r
    obtain ⟨es, hO, h⟩ := onK_ex h
    obtain ⟨hf, kvs, hH, rk⟩ := rs.own _ _ hO
    exact ⟨_, kvs, rfl, hH, by rw [rk.len]; exact fin _ _ h _ _ F (.refl rs) (.int _)⟩
  · exact h.elim
def dClear : DV → List DV → Own → DVK → Prop
  | .ref a, [], O, Q => onL (O a) fun _ => Q .non (oset O a (.lst []))
  | _, _, _, _ => False
theorem md_clear {X : Cx} : MtD X "list.clear" dClear := by
  refine ⟨fun g0 => MtR_imp mt_clear ?_⟩
  rintro x vs H VQ ⟨F, O, d, ds, Q, rs, rd, rr, h, fin⟩
  unfold dClear at h
  split at h
  · cases rd; cases rr
    obtain ⟨xs, hO, h⟩ := onL_ex h
    obtain ⟨hf, ws, hH, rk⟩ := rs.own _ _ hO
    exact ⟨_, ws, rfl, rfl, hH, fin _ _ h _ _ F (rs.write hO ⟨_, upd_same, .nil⟩) .non⟩
  · exact h.elim
end DL
set_option Elab.async false
set_option linter.all false
set_option maxRecDepth 100000
namespace DL
open PySem PySem.Spec PyProof.Rows L2 TL
variable {XW : DXK}
structure DKw (XW : DXK) (X : Cx) (kws : List Keyword) (t : DTA) : Prop where
  pk : ∀ g, Good XW X g → PK X kws (liftA (kg X g) t)
structure KwEnd (K : PySem.W.Frag) (fd : FuncData) (ps : List Str) (n : Nat) (ks : List Str) : Prop where
  to : ∀ (s : Shared) (us ws : List Value), us.length = n → ws.length = ks.length → BindsTo s fd ⟨us, ks.zip ws⟩ (ps.zip (us ++ ws))
end DL
set_option Elab.async false
set_option linter.all false
set_option maxRecDepth 100000
set_option Elab.async false
set_option linter.all false
set_option maxRecDepth 100000
namespace DL
open PySem PySem.Spec PyProof.Rows L2 TL
variable {XW : DXK}
abbrev low (K : KG) : KG := ⟨K.f, X0, L2.E0⟩
end DL
set_option Elab.async false
set_option linter.all false
set_option maxRecDepth 100000
set_option maxHeartbeats 1000000
namespace DL
open PySem PySem.Spec PyProof.Rows L2 TL
variable {XW : DXK}
def dRaiseP (XW : DXK) (C : Addr) (D : DEnds) (S : DSt) (O : Own) : Prop := XW C none O
theorem ds_raiseP {X : Cx} {x m : Str} {C : Addr} {bmB : List Value} {B newId initId : String} {j : Nat} {p p2 pos pos' : Pos} (F : ExcBaseFacts B newId initId bmB) (q : PySem.W.excIn X.K C bmB newId = true) (hm : X.mg x = some (.ref C))
    (kC : PySem.W.keepIn X.K (.ref C) = true) (bC : PySem.W.subIn X.K (.ref C) (.type "BaseException") = some true) (tC : PySem.W.typeIn X.K (.ref C) = some (.type "type")) (hc : X.calm = true := by rfl) (hg : Gl X x := by rfl)
    (hdb : (x == ("__debug__" : Str)) = false := by decide) (hst : X.stack = X.env :: X.outer := by rfl) :
    DS XW X (.Raise (some (.Call (.Name x p) [.Constant (.str m) j p2] [] pos)) none pos') (dRaiseP XW C) := by
  refine ⟨fun g0 hg0 => PS_imp (ps_raise hc (hg0.takes hst) (pmk_own F q hm kC (raises_own bC tC) hg hdb)) ?_⟩
  rintro VD σ H ⟨F, O, S, D, rs, sr, h, fin⟩
  exact rs.xf C none O (hg0.2 _ _ _ h) none H F Raw.refl rs.z rfl (fun dx o e => by cases e)
def Rises (ys : List Str) : Prop := ys.Pairwise fun a b => ltCps b.cps.toList a.cps.toList = false
theorem ltC_trans {a b c : List Nat} (h1 : ltCps b a = false) (h2 : ltCps c b = false) : ltCps c a = false := by
  rw [ltCps_eq] at h1 h2 ⊢
  have h1 := of_decide_eq_false h1
  have h2 := of_decide_eq_false h2
  exact decide_eq_false fun h => h1 (List.lt_of_le_of_lt (List.not_lt.mp h2) h)
theorem rises_cons : ∀ {l : List Str} {p : Str}, risingS p l = true → Rises (p :: l)
  | [], p, _ => by simp [Rises]
  | x :: r, p, h => by
    unfold risingS at h
    simp only [Bool.and_eq_true, Bool.not_eq_true'] at h
    have ih : Rises (x :: r) := rises_cons h.2
    unfold Rises at ih ⊢
    rw [List.pairwise_cons]
    refine ⟨fun y hy => ?_, ih⟩
    rcases List.mem_cons.mp hy with rfl | hy
    · exact h.1
    · exact ltC_trans h.1 ((List.pairwise_cons.mp ih).1 y hy)
theorem rises_of {l : List Str} (h : sortedS l = true) : Rises l := by
  cases l with
  | nil => simp [Rises]
  | cons x r => exact rises_cons h
theorem ltC_eq {a b : Str} (h1 : ltCps b.cps.toList a.cps.toList = false) (h2 : ltCps a.cps.toList b.cps.toList = false) : a = b := by
  rw [ltCps_eq] at h1 h2
  have e := List.le_antisymm (List.not_lt.mp (of_decide_eq_false h1)) (List.not_lt.mp (of_decide_eq_false h2))
  obtain ⟨⟨x⟩⟩ := a
  obtain ⟨⟨y⟩⟩ := b
  simp only at e
  rw [e]
theorem rises_eq : ∀ {xs ys : List Str}, xs.Perm ys → Rises xs → Rises ys → xs = ys
  | [], ys, p, _, _ => (List.nil_perm.mp p).symm ▸ rfl
  | x :: xs, [], p, _, _ => by have := p.length_eq; simp at this
  | x :: xs, y :: ys, p, h1, h2 => by
    unfold Rises at h1 h2
    rw [List.pairwise_cons] at h1 h2
    have e : x = y := by
      rcases List.mem_cons.mp (p.mem_iff.mp (List.mem_cons_self (a := x) (l := xs))) with h | h
      · exact h
      · rcases List.mem_cons.mp (p.mem_iff.mpr (List.mem_cons_self (a := y) (l := ys))) with h' | h'
        · exact h'.symm
        · exact ltC_eq (h1.1 y h') (h2.1 x h)
    subst e
    rw [rises_eq (List.perm_cons x |>.mp p) h1.2 h2.2]
def dSortS : List DV → Own → DVK → Prop
  | [d], O, Q => dkQ O d fun es => ∃ ks : List Str, es.map (·.1) = ks.map Sum.inr ∧ ks.length < 64 ∧ ∀ ys : List Str, ys.Perm ks → Rises ys → Q (.lst (ys.map DV.str)) O
  | _, _, _ => False
theorem dSortS_e1 {d : DV} {O : Own} {Q : DVK} : dSortS [d] O Q = dkQ O d fun es => ∃ ks : List Str, es.map (·.1) = ks.map Sum.inr ∧ ks.length < 64 ∧ ∀ ys : List Str, ys.Perm ks → Rises ys → Q (.lst (ys.map DV.str)) O := rfl
theorem cd_sortS {X : Cx} (hc : X.calm = true) : CallD X (.builtin "sorted") dSortS := by
  refine ⟨fun g0 => CallR_imp (call_sortedD hc) ?_⟩
  rintro vs H VQ ⟨F, O, ds, Q, rs, rr, h, fin⟩
  unfold dSortS at h
  split at h
  · obtain ⟨v, rfl, r⟩ := rr.one
    obtain ⟨es, e, ks, h1, h2, h⟩ := dkQ_ex h
    obtain ⟨a, kvs, rfl, h3, r1⟩ := dkOf_at rs r e
    refine ⟨a, kvs, ks, rfl, h3, by rw [r1.keys, h1], h2, fun ys p hp hy hH => ?_⟩
    exact fin _ _ (h ys hp (rises_of hy)) _ _ _ (rs.new hH _) (.lst upd_same (Reps.of_strs _))
  · exact h.elim
abbrev veB : List Value := [.type "ValueError", .type "Exception", .type "BaseException", .type "object"]
end DL
set_option Elab.async false
set_option linter.all false
set_option maxRecDepth 100000
set_option maxHeartbeats 2000000
namespace L2
open PySem PySem.Spec PyProof.Rows
section
variable {X : Cx}
def rPopD : V → List V → Hp → VK → Prop := fun x xs H Q => ∃ a kvs k, x = .ref a ∧ H a = some (.dK kvs) ∧
  ((∃ v, (xs = [kV k] ∨ ∃ z, xs = [kV k, z]) ∧ valV kvs k = some v ∧ Q v (upd H a (.dK (dropK kvs k)))) ∨ ∃ z, xs = [kV k, z] ∧ valV kvs k = none ∧ Q z H)
theorem mt_dpop : MtR X "dict.pop" rPopD := by
  intro pins s σ H x xs v us Q I rx rxs h
  obtain ⟨a, kvs, k, rfl, ha, h⟩ := h
  obtain rfl : v = Value.ref a := rx
  rcases h with ⟨w, h1, h2, q⟩ | ⟨z, rfl, h2, q⟩
  · rcases h1 with rfl | ⟨z, rfl⟩
    · obtain ⟨u, rfl, ru⟩ := rxs.one
      exact d_pop I ha ru h2 (.inl rfl) fun w' s' I' rw' => ⟨w, _, I', rw', q⟩
    · cases rxs with
      | cons ru rr =>
        cases rr with
        | cons rz rr =>
          cases rr
          exact d_pop I ha ru h2 (.inr ⟨_, rfl⟩) fun w' s' I' rw' => ⟨w, _, I', rw', q⟩
  · cases rxs with
    | cons ru rr =>
      cases rr with
      | cons rz rr =>
        cases rr
        exact d_popD I ha ru h2 fun s' I' => ⟨z, _, I', rz, q⟩
def rCntB (K : PySem.W.Frag) : V → List V → Hp → VK → Prop := fun x xs H Q => ∃ (p : Addr) (ys : List V) (y : V), x = .ref p ∧ xs = [y] ∧ SqL K H p ys ∧ flatV y = true ∧ ys.all flatV = true ∧ Q (.int (ys.countP fun z => eqV z y : Nat)) H
theorem cnt_eq {y : V} {uy : Value} (ry : RelV y uy) (fy : flatV y = true) : ∀ {ys : List V} {us : List Value}, Vals ys us → ys.all flatV = true → us.countP (eqU y) = ys.countP fun z => eqV z y
  | _, _, .nil, _ => rfl
  | _, _, .cons r rs, f => by
    simp only [List.all_cons, Bool.and_eq_true] at f
    rw [List.countP_cons, List.countP_cons, cnt_eq ry fy rs f.2, eqU_of r f.1]
theorem mt_lcountB : MtR X "list.count" (rCntB X.K) := by
  intro pins s σ H x xs v us Q I rx rxs h
  obtain ⟨a, ys, y, rfl, rfl, hs, fy, fys, q⟩ := h
  cases rx
  cases rxs with
  | cons ry rt =>
    rename_i uy ut
    cases rt
    obtain ⟨its, rv, ⟨⟨cls, dd, data, sl⟩, n, ho, hc, hdn, hd⟩, hlen⟩ := I.list hs
    simp only at hc hd
    subst hc hd
    refine call_meets PySem.F.slot_list_count ⟨_, ho, rfl⟩ PySem.F.entry_list_count (PySem.F.args_list_count_2 _ _)
      (SeqAt.list_countAt a its.toArray n dd sl uy (eqU y)) ⟨ho, fun u' hu' => mem_eqAt ry fy rv fys u' (by simpa using hu'), ?_⟩
    refine ⟨.int (ys.countP fun z => eqV z y : Nat), H, I.tok _, ⟨s.toks, ?_⟩, q⟩
    show Value.int ((its.toArray.toList.countP (eqU y) : Nat) : Int) s.toks = _
    have e := cnt_eq ry fy rv fys
    rw [show its.toArray.toList = its from rfl, e]
end
end L2
namespace DL
open PySem PySem.Spec PyProof.Rows L2 TL
variable {XW : DXK}
def ddrop (es : List (Key × DV)) (k : Key) : List (Key × DV) := es.filter fun kv => decide (kv.1 ≠ k)
theorem RepK.dropD {K : PySem.W.Frag} {F : Hp} (k : Key) : ∀ {kvs : List (Key × V)} {es : List (Key × DV)}, RepK K F kvs es → RepK K F (dropK kvs k) (ddrop es k)
  | _, _, .nil => .nil
  | _, _, .cons (k := k') r q => by
    unfold dropK ddrop
    by_cases e : k' = k
    · simp only [List.filter_cons, ne_eq, e, not_true_eq_false, decide_false, Bool.false_eq_true, if_false]
      exact RepK.dropD k q
    · simp only [List.filter_cons, ne_eq, e, not_false_eq_true, decide_true, if_true]
      exact .cons r (RepK.dropD k q)
def dPopD (a : Addr) (O : Own) (Q : DVK) (k : Str) (els : Option DV) (es : List (Key × DV)) : Option DV → Prop
  | some v => Q v (oset O a (.dK (ddrop es (.inr k))))
  | none => match els with
    | some z => Q z O
    | none => False
def dPop : DV → List DV → Own → DVK → Prop
  | .ref a, [.str k], O, Q => onK (O a) fun es => dPopD a O Q k none es (dget es (.inr k))
  | .ref a, [.str k, z], O, Q => onK (O a) fun es => dPopD a O Q k (some z) es (dget es (.inr k))
  | _, _, _, _ => False
theorem md_pop {X : Cx} : MtD X "dict.pop" dPop := by
  refine ⟨fun g0 => MtR_imp mt_dpop ?_⟩
  rintro x xs H VQ ⟨F, O, d, ds, Q, rs, rx, rr, h, fin⟩
  unfold dPop at h
  split at h
  · rename_i a k
    cases rx
    obtain ⟨v, rfl, ry⟩ := rr.one
    cases ry
    obtain ⟨es, e1, h⟩ := onK_ex h
    obtain ⟨hf, kvs, h1, r1⟩ := rs.own a _ e1
    refine ⟨a, kvs, .inr k, rfl, h1, .inl ?_⟩
    cases e : dget es (.inr k) with
    | none => rw [e] at h; exact h.elim
    | some d =>
      rw [e] at h
      obtain ⟨v, hv, rv⟩ := (r1.get (k := .inr k)).1 d e
      exact ⟨v, .inl rfl, hv, fin _ _ h _ _ F (rs.write e1 ⟨_, upd_same, r1.dropD _⟩) rv⟩
  · rename_i a k z
    cases rx
    obtain ⟨v, w, rfl, ry, rz⟩ := rr.two
    cases ry
    obtain ⟨es, e1, h⟩ := onK_ex h
    obtain ⟨hf, kvs, h1, r1⟩ := rs.own a _ e1
    refine ⟨a, kvs, .inr k, rfl, h1, ?_⟩
    cases e : dget es (.inr k) with
    | none =>
      rw [e] at h
      exact .inr ⟨w, rfl, (r1.get (k := .inr k)).2 e, fin _ _ h _ _ F (.refl rs) rz⟩
    | some d =>
      rw [e] at h
      obtain ⟨v, hv, rv⟩ := (r1.get (k := .inr k)).1 d e
      exact .inl ⟨v, .inr ⟨w, rfl⟩, hv, fin _ _ h _ _ F (rs.write e1 ⟨_, upd_same, r1.dropD _⟩) rv⟩
  · exact h.elim
theorem dPop_e1 {a : Addr} {k : Str} {O : Own} {Q : DVK} : dPop (.ref a) [.str k] O Q = onK (O a) fun es => dPopD a O Q k none es (dget es (.inr k)) := rfl
theorem dPop_e2 {a : Addr} {k : Str} {z : DV} {O : Own} {Q : DVK} : dPop (.ref a) [.str k, z] O Q = onK (O a) fun es => dPopD a O Q k (some z) es (dget es (.inr k)) := rfl
def dSortO : List DV → Own → DVK → Prop
  | [d], O, Q => dkQ O d fun es => ∃ ks : List Str, es.map (·.1) = ks.map Sum.inr ∧ ks.length < 64 ∧ ∀ (ys : List Str) (p : Addr), ys.Perm ks → Rises ys → O p = none → Q (.ref p) (oset O p (.lst (ys.map DV.str)))
  | _, _, _ => False
theorem dSortO_e1 {d : DV} {O : Own} {Q : DVK} : dSortO [d] O Q = dkQ O d fun es => ∃ ks : List Str, es.map (·.1) = ks.map Sum.inr ∧ ks.length < 64 ∧ ∀ (ys : List Str) (p : Addr), ys.Perm ks → Rises ys → O p = none → Q (.ref p) (oset O p (.lst (ys.map DV.str))) := rfl
theorem cd_sortO {X : Cx} (hc : X.calm = true) : CallD X (.builtin "sorted") dSortO := by
  refine ⟨fun g0 => CallR_imp (call_sortedD hc) ?_⟩
  rintro vs H VQ ⟨F, O, ds, Q, rs, rr, h, fin⟩
  unfold dSortO at h
  split at h
  · obtain ⟨v, rfl, r⟩ := rr.one
    obtain ⟨es, e, ks, h1, h2, h⟩ := dkQ_ex h
    obtain ⟨a, kvs, rfl, h3, r1⟩ := dkOf_at rs r e
    refine ⟨a, kvs, ks, rfl, h3, by rw [r1.keys, h1], h2, fun ys p hp hy hH => ?_⟩
    exact fin _ _ (h ys p hp (rises_of hy) (rs.free hH).2) _ _ F (rs.newO hH ⟨_, upd_same, Reps.of_strs _⟩) (.ref p)
  · exact h.elim
def dIsE (K : PySem.W.Frag) (D a : Addr) : List DV → Own → DVK → Prop
  | [.ref b, .ref c], O, Q => b = a ∧ ∃ r, PySem.W.kitOne K (.ref D) (.ref c) = some r ∧ Q (.bl r) O
  | _, _, _ => False
theorem cd_isE {X : Cx} {a D : Addr} {oe : Obj} {pn : List (Addr × Obj)} (C : ExcC X.K D) (hz : Zc (.ref D) none oe) (hf : ∃ vs, oe.data = .fields vs) : CallD (X.suite a ((a, oe) :: pn)) (.builtin "isinstance") (dIsE X.K D a) := by
  refine ⟨fun g0 => CallR_imp (call_isE C hz hf) ?_⟩
  rintro vs H VQ ⟨F, O, ds, Q, rs, rr, h, fin⟩
  unfold dIsE at h
  split at h
  · rename_i b c
    obtain ⟨v, w, rfl, r1, r2⟩ := rr.two
    cases r1; cases r2
    obtain ⟨rfl, r, e, h⟩ := h
    exact ⟨.ref c, .ref c, r, rfl, fun u hu => hu, e, fin _ _ h _ _ F (.refl rs) (.bl _)⟩
  · exact h.elim
theorem cd_isE2 {K : PySem.W.Frag} {a D : Addr} {oe : Obj} {pn : List (Addr × Obj)} (C : ExcC K D) (hz : Zc (.ref D) none oe) (hf : ∃ vs, oe.data = .fields vs) {X : Cx} (hK : X.K = K := by rfl) : CallD (X.suite a ((a, oe) :: pn)) (.builtin "isinstance") (dIsE K D a) := by
  subst hK
  exact cd_isE C hz hf
def dIndex : DV → List DV → Own → DVK → Prop
  | .lst xs, [y], O, Q => flatD y = true ∧ xs.all flatD = true ∧ ∃ (j : Nat) (z : DV), xs[j]? = some z ∧ eqF z y = true ∧ (∀ (m : Nat) (z' : DV), m < j → xs[m]? = some z' → eqF z' y = false) ∧ Q (.int (j : Nat)) O
  | _, _, _, _ => False
theorem reps_at {K : PySem.W.Frag} {F : Hp} : ∀ {vs : List V} {xs : List DV} {j : Nat} {z : DV}, Reps K F vs xs → xs[j]? = some z → ∃ v, vs[j]? = some v ∧ Rep K F v z
  | _, _, 0, _, .cons r _, e => by cases e; exact ⟨_, rfl, r⟩
  | _, _, j + 1, _, .cons _ rs, e => by
    obtain ⟨v, e1, e2⟩ := reps_at (j := j) rs e
    exact ⟨v, e1, e2⟩
theorem reps_atV {K : PySem.W.Frag} {F : Hp} : ∀ {vs : List V} {xs : List DV} {j : Nat} {v : V}, Reps K F vs xs → vs[j]? = some v → ∃ z, xs[j]? = some z ∧ Rep K F v z
  | _, _, 0, _, .cons r _, e => by cases e; exact ⟨_, rfl, r⟩
  | _, _, j + 1, _, .cons _ rs, e => by
    obtain ⟨v, e1, e2⟩ := reps_atV (j := j) rs e
    exact ⟨v, e1, e2⟩
theorem md_index {X : Cx} : MtD X "list.index" dIndex := by
  refine ⟨fun g0 => MtR_imp mt_index ?_⟩
  rintro x xs H VQ ⟨F, O, d, ds, Q, rs, rx, rr, h, fin⟩
  unfold dIndex at h
  split at h
  · rename_i ys y
    obtain ⟨v, rfl, ry⟩ := rr.one
    cases rx with
    | lst e r =>
      obtain ⟨f1, f2, j, z, h1, h2, h3, h⟩ := h
      obtain ⟨vz, g1, g2⟩ := reps_at r h1
      have fz : flatD z = true := List.all_eq_true.mp f2 z (List.mem_of_getElem? h1)
      refine ⟨_, _, _, j, vz, rfl, rfl, SqL.of (rs.lst e), flat_rep ry f1, flat_reps r f2, g1, ?_, fun m v' hm hv => ?_, fin _ _ h _ _ F (.refl rs) (.int _)⟩
      · rw [eqF_rep g2 ry fz f1]; exact h2
      · obtain ⟨z', e1, e2⟩ := reps_atV r hv
        rw [eqF_rep e2 ry (List.all_eq_true.mp f2 z' (List.mem_of_getElem? e1)) f1]
        exact h3 m z' hm e1
  · exact h.elim
def dCount : DV → List DV → Own → DVK → Prop
  | .lst xs, [y], O, Q => flatD y = true ∧ xs.all flatD = true ∧ Q (.int (xs.countP fun z => eqF z y : Nat)) O
  | _, _, _, _ => False
theorem cntF_rep {K : KG} {F : Hp} {w : V} {y : DV} (ry : Rep K.f F w y) (fy : flatD y = true) : ∀ {vs : List V} {xs : List DV}, Reps K.f F vs xs → xs.all flatD = true → (vs.countP fun z => eqV z w) = xs.countP fun z => eqF z y
  | _, _, .nil, _ => rfl
  | _, _, .cons r rs, f => by
    simp only [List.all_cons, Bool.and_eq_true] at f
    rw [List.countP_cons, List.countP_cons, cntF_rep ry fy rs f.2, eqF_rep r ry f.1 fy]
theorem md_count {X : Cx} : MtD X "list.count" dCount := by
  refine ⟨fun g0 => MtR_imp mt_lcountB ?_⟩
  rintro x xs H VQ ⟨F, O, d, ds, Q, rs, rx, rr, h, fin⟩
  unfold dCount at h
  split at h
  · rename_i ys y
    obtain ⟨v, rfl, ry⟩ := rr.one
    cases rx with
    | lst e r =>
      obtain ⟨f1, f2, h⟩ := h
      refine ⟨_, _, _, rfl, rfl, SqL.of (rs.lst e), flat_rep ry f1, flat_reps r f2, ?_⟩
      rw [cntF_rep (K := kg X g0) ry f1 r f2]
      exact fin _ _ h _ _ F (.refl rs) (.int _)
  · exact h.elim
section
variable {X : Cx} {C g : Addr} {k : Nat} {fd : FuncData} {ps : List Str} {sp : DSp} {x : Str} {p pos : Pos}
theorem de_make0 (M : Mk X.K C g) (G : FnOk X.prog X.w X.K X.mg X.base CX0 k g fd ps (liftSp X.K sp)) (hr : Room (k + 1) X.A) (hm : X.mg x = some (.ref C)) (hb : Binds X.K fd ps [])
    (hg : Gl X x := by rfl) (hdb : (x == ("__debug__" : Str)) = false := by decide) :
    DE XW X (.Call (.Name x p) [] [] pos) (dMake C sp dANil) :=
  ⟨fun g0 hg0 => PE_imp (pe_make0 M G hr hg hm hb .nil pass0 hdb) fun _ _ _ h => liftA_nil (liftMake (K := kg X g0) h)⟩
end
end DL
set_option Elab.async false
set_option linter.all false
set_option maxRecDepth 100000
namespace W1
open PySem PySem.Spec PyProof.Rows L2 TL DL
inductive Ex where
  | num (n : Nat) | truth (b : Bool) | name (f n : Str) | call (f n : Str) (as : List Ex) | un (neg : Bool) (a : Ex) | bin (op : Str) (a b : Ex)
abbrev binOps : List Str := ["or", "and", "=", "<>", "<", "<=", "+", "-", "*", "/", "mod"]
mutual
def enc : Ex → DV
  | .num n => .tup [.str "num", .non, .int (n : Int)]
  | .truth b => .tup [.str "truth", .non, .bl b]
  | .name f n => .tup [.str "name", .non, .str f, .str n]
  | .call f n as => .tup [.str "call", .non, .str f, .str n, .tup (encL as)]
  | .un neg a => .tup [.str (if neg then "neg" else "not"), .non, enc a]
  | .bin op a b => .tup [.str op, .non, enc a, enc b]
def encL : List Ex → List DV
  | [] => []
  | e :: es => enc e :: encL es
end
def opLev (op : Str) : Nat := if op = "or" then 1 else if op = "and" then 2 else if op = "+" ∨ op = "-" then 5 else if op = "*" ∨ op = "/" ∨ op = "mod" then 6 else 4
def paren (b : Prop) [Decidable b] (s : Str) : Str := if b then s else "(" ++ s ++ ")"
def nmT (f n : Str) : Str := if f = "" then n else f ++ "." ++ n
def lsum (m : Nat) : Nat := if m = 4 then m + 1 else m
mutual
def tx : Ex → Nat → Str
  | .num n, _ => toString (n : Int)
  | .truth b, _ => if b then "yes" else "no"
  | .name f n, _ => nmT f n
  | .call f n as, _ => nmT f n ++ "(" ++ Txt.join ", " (txL as) ++ ")"
  | .un neg a, l => if neg then paren (7 ≥ l) ("-" ++ tx a 7) else paren (3 ≥ l) ("not " ++ tx a 3)
  | .bin op a b, l => paren (opLev op ≥ l) (tx a (lsum (opLev op)) ++ " " ++ op ++ " " ++ tx b (opLev op + 1))
def txL : List Ex → List Str
  | [] => []
  | e :: es => tx e 1 :: txL es
end
end W1
namespace W1
open PySem PySem.Spec PyProof.Rows L2 TL DL
theorem op_ne {op : Str} (h : op ∈ binOps) : op ≠ "num" ∧ op ≠ "truth" ∧ op ≠ "name" ∧ op ≠ "call" ∧ op ≠ "not" ∧ op ≠ "neg" ∧ "name" ≠ op ∧ "call" ≠ op := by
  have k : ∀ op ∈ binOps, op ≠ "num" ∧ op ≠ "truth" ∧ op ≠ "name" ∧ op ≠ "call" ∧ op ≠ "not" ∧ op ≠ "neg" ∧ "name" ≠ op ∧ "call" ≠ op := by decide +kernel
  exact k op h
end W1
set_option Elab.async false
set_option linter.all false
set_option maxRecDepth 100000
namespace W1
open PySem PySem.Spec PyProof.Rows L2 TL DL
inductive PureS : Nat → DV → Prop
  | non {n} : PureS n .non
  | bl {n} (b) : PureS n (.bl b)
  | int {n} (i) : PureS n (.int i)
  | str {n} (x : Str) : x.cps.all (· < 0x110000) = true → PureS n (.str x)
  | tup {n} {xs : List DV} : (∀ x ∈ xs, PureS n x) → PureS (n + 1) (.tup xs)
  | lst {n} {xs : List DV} : (∀ x ∈ xs, PureS n x) → PureS (n + 1) (.lst xs)
theorem toPys_all {n : Nat} : ∀ {xs : List DV}, (∀ x ∈ xs, ∃ p, toPy x = some p ∧ p.canLay0 = true ∧ p.depth ≤ n) → ∃ ps, toPys xs = some ps ∧ PyData.canLayAll0 ps = true ∧ PyData.depthAll ps ≤ n ∧ ps.length = xs.length
  | [], _ => ⟨[], rfl, rfl, Nat.zero_le _, rfl⟩
  | x :: xs, h => by
    obtain ⟨p, e, h1, h2⟩ := h x List.mem_cons_self
    obtain ⟨ps, e', h3, h4, h5⟩ := toPys_all fun x hx => h x (List.mem_cons_of_mem _ hx)
    refine ⟨p :: ps, by simp only [toPys, e, e'], by simp only [PyData.canLayAll0, h1, h3]; rfl, ?_, by simp [h5]⟩
    show max p.depth (PyData.depthAll ps) ≤ n
    omega
theorem pure_py : ∀ {n : Nat} {d : DV}, PureS n d → ∃ p, toPy d = some p ∧ p.canLay0 = true ∧ p.depth ≤ n := by
  intro n d h
  induction h with
  | non => exact ⟨_, rfl, rfl, Nat.zero_le _⟩
  | bl b => exact ⟨_, rfl, rfl, Nat.zero_le _⟩
  | int i => exact ⟨_, rfl, rfl, Nat.zero_le _⟩
  | str x hx => exact ⟨.str x, rfl, hx, Nat.zero_le _⟩
  | @tup n xs _ ih =>
    obtain ⟨ps, e, h1, h2, _⟩ := toPys_all ih
    exact ⟨.tuple ps, by simp only [toPy, e], h1, Nat.succ_le_succ h2⟩
  | @lst n xs _ ih =>
    obtain ⟨ps, e, h1, h2, _⟩ := toPys_all ih
    exact ⟨.list ps, by simp only [toPy, e], h1, Nat.succ_le_succ h2⟩
theorem shaped_of {n : Nat} {p : PyData} (h : p.canLay0 = true) (h2 : p.depth ≤ n) (hn : n ≤ 64) : SeqAt.shaped p = true := by
  unfold SeqAt.shaped
  rw [h, decide_eq_true (by omega)]; rfl
theorem tup_nil {neg : Bool} {n : Nat} {xs : List DV} {O : Own} {Q : DVK} (h : PureS n (.tup xs)) (hn : n ≤ 64) (k : Q (.bl (if neg then !decide (xs = []) else decide (xs = []))) O) : dEqP neg (.tup xs) (.tup []) O Q := by
  obtain ⟨p, e, h1, h2⟩ := pure_py h
  unfold dEqP
  refine onSome_of e (onSome_of (x := .tuple []) rfl ⟨shaped_of h1 h2 hn, rfl, ?_⟩)
  have e2 : PyData.eqv p (.tuple []) = decide (xs = []) := by
    cases xs with
    | nil => simp only [toPy, toPys] at e; cases e; rfl
    | cons x xs =>
      simp only [toPy, toPys] at e
      cases e3 : toPy x with
      | none => rw [e3] at e; cases e
      | some q =>
        cases e4 : toPys xs with
        | none => rw [e3, e4] at e; cases e
        | some qs => rw [e3, e4] at e; cases e; rfl
  rw [e2]
  exact k
end W1
set_option Elab.async false
set_option linter.all false
set_option maxRecDepth 100000
namespace W1
open PySem PySem.Spec PyProof.Rows L2 TL DL
inductive Rw where
  | lt (new : Bool) (n : Str) (e : Ex) | one (w : Str) (e : Option Ex) | iff (t : Ex) (a b : List Rw) | whl (t : Ex) (a : List Rw)
def encO : Option Ex → DV
  | none => .non
  | some e => enc e
mutual
def encR : Rw → DV
  | .lt new n e => .tup [.str (if new then "let" else "set"), .non, .str n, enc e]
  | .one w e => .tup [.str w, .non, encO e]
  | .iff t a b => .tup [.str "if", .non, enc t, .tup (encRs a), .tup (encRs b)]
  | .whl t a => .tup [.str "while", .non, enc t, .tup (encRs a)]
def encRs : List Rw → List DV
  | [] => []
  | r :: rs => encR r :: encRs rs
end
end W1
namespace W1
open PySem PySem.Spec PyProof.Rows L2 TL DL
def Cps (x : Str) : Prop := x.cps.all (· < 0x110000) = true
theorem cps_of {x : Str} (h : ∀ c ∈ tl x, c < 0x110000) : Cps x := by
  unfold Cps
  rw [← Array.all_toList, List.all_eq_true]
  exact fun c hc => decide_eq_true (h c hc)
mutual
def PE : Ex → Prop
  | .num _ => True
  | .truth _ => True
  | .name f n => Cps f ∧ Cps n
  | .call f n as => Cps f ∧ Cps n ∧ PEL as
  | .un _ a => PE a
  | .bin _ a b => PE a ∧ PE b
def PEL : List Ex → Prop
  | [] => True
  | e :: es => PE e ∧ PEL es
end
theorem PureS.mono {n m : Nat} {d : DV} (h : PureS n d) : n ≤ m → PureS m d := by
  induction h generalizing m with
  | non => intro _; exact .non
  | bl b => intro _; exact .bl b
  | int b => intro _; exact .int b
  | str x hx => intro _; exact .str x hx
  | @tup n xs _ ih =>
    intro hm
    cases m with
    | zero => omega
    | succ m => exact .tup fun x hx => ih x hx (by omega)
  | @lst n xs _ ih =>
    intro hm
    cases m with
    | zero => omega
    | succ m => exact .lst fun x hx => ih x hx (by omega)
theorem cps_lit : Cps "num" ∧ Cps "truth" ∧ Cps "name" ∧ Cps "call" ∧ Cps "neg" ∧ Cps "not" ∧ Cps "let" ∧ Cps "set" ∧ Cps "if" ∧ Cps "while" ∧ Cps "" ∧ Cps "yes" ∧ Cps "give" ∧ Cps "say" ∧ Cps "do" := by
  unfold Cps; decide +kernel
end W1
namespace W1
open PySem PySem.Spec PyProof.Rows L2 TL DL
mutual
/-- how many rows -/
def cR : Rw → Nat
  | .lt _ _ _ => 1
  | .one _ _ => 1
  | .iff _ a b => 1 + cRs a + cRs b
  | .whl _ a => 1 + cRs a
def cRs : List Rw → Nat
  | [] => 0
  | r :: rs => cR r + cRs rs
end
inductive Td where
  | val (w : Str) (out : Bool) (n : Str) (e : Ex) | dfn (out : Bool) (n : Str) (ps : List (Str × Str)) (kd : Str) (rs : List Rw)
def encP (p : Str × Str) : DV := .tup [.non, .str p.1, .str p.2]
def encT : Td → DV
  | .val w out n e => .tup [.str w, .non, .bl out, .str n, enc e]
  | .dfn out n ps kd rs => .tup [.str "def", .non, .bl out, .str n, .tup (ps.map encP), .str kd, .tup (encRs rs), .non]
end W1
set_option Elab.async false
set_option linter.all false
set_option maxRecDepth 100000
namespace W1
open PySem PySem.Spec PyProof.Rows L2 TL DL
theorem isName_len {w : Str} (h : IsName w) : (tl w).length ≤ 3 := by
  obtain ⟨c, l, e, _, _, hl⟩ := h
  rw [e, List.length_cons]; omega
theorem isName_cps {w : Str} (h : IsName w) : Cps w := by
  obtain ⟨c, l, e, h1, h2, hl⟩ := h
  refine cps_of fun x hx => ?_
  rw [e] at hx
  have k1 : ∀ x ∈ tl (Str.ofString "bfhjpqrtvxz"), x < 0x110000 := by decide +kernel
  have k2 : ∀ x ∈ tl (Str.ofString "abdefilmnostuwy"), x < 0x110000 := by decide +kernel
  rcases List.mem_cons.mp hx with rfl | hx
  · exact k1 _ h1
  · exact k2 _ (h2 x hx)
def FN (f : Str) : Prop := f = "" ∨ IsName f
def KN (k : Str) : Prop := k = "num" ∨ k = "yes"
theorem FN.len {f : Str} (h : FN f) : (tl f).length ≤ 3 := by
  rcases h with rfl | h
  · decide
  · exact isName_len h
theorem FN.cps {f : Str} (h : FN f) : Cps f := by
  rcases h with rfl | h
  · exact cps_lit.2.2.2.2.2.2.2.2.2.2.1
  · exact isName_cps h
theorem KN.cps {f : Str} (h : KN f) : Cps f := by
  rcases h with rfl | rfl
  · exact cps_lit.1
  · exact cps_lit.2.2.2.2.2.2.2.2.2.2.2.1
abbrev Nm := Str × Str × Str
abbrev Df := Str × Str × List Str × Str
def encN (x : Nm) : DV := .tup [.str x.1, .str x.2.1, .str x.2.2]
def encDf (x : Df) : DV := .tup [.str x.1, .str x.2.1, .tup (x.2.2.1.map DV.str), .str x.2.2.2]
def OkN (x : Nm) : Prop := KN x.1 ∧ FN x.2.1 ∧ IsName x.2.2
def OkD (x : Df) : Prop := FN x.1 ∧ IsName x.2.1 ∧ x.2.2.1.length ≤ 3 ∧ (∀ k ∈ x.2.2.1, KN k) ∧ (KN x.2.2.2 ∨ x.2.2.2 = "")
def Sgs (sg : List Str) : Prop := sg = ([Str.ofString "+", Str.ofString "-"] : List Str) ∨ sg = ([Str.ofString "+", Str.ofString "-", Str.ofString "*", Str.ofString "/", Str.ofString "mod"] : List Str)
structure CtxE (kvs : List (Key × DV)) (ns : List Nm) (ds : List Df) (sg : List Str) : Prop where
  n : dget kvs (Sum.inr (Str.ofString "names")) = some (.lst (ns.map encN))
  d : dget kvs (Sum.inr (Str.ofString "defs")) = some (.lst (ds.map encDf))
  s : dget kvs (Sum.inr (Str.ofString "signs")) = some (.lst (sg.map DV.str))
  on : ∀ x ∈ ns, OkN x
  od : ∀ x ∈ ds, OkD x
  ln : ns.length ≤ 1000
  ld : ds.length ≤ 1000
  os : Sgs sg
theorem lst_nil {neg : Bool} {n : Nat} {xs : List DV} {O : Own} {Q : DVK} (h : ∀ x ∈ xs, PureS n x) (hn : n ≤ 60) (k : Q (.bl (if neg then !decide (xs = []) else decide (xs = []))) O) : dEqP neg (.lst xs) (.lst []) O Q := by
  obtain ⟨p, e, h1, h2⟩ := pure_py (PureS.lst (n := n) h)
  unfold dEqP
  refine onSome_of e (onSome_of (x := .list []) rfl ⟨shaped_of h1 h2 (by omega), rfl, ?_⟩)
  have e2 : PyData.eqv p (.list []) = decide (xs = []) := by
    cases xs with
    | nil => simp only [toPy, toPys] at e; cases e; rfl
    | cons x xs =>
      simp only [toPy, toPys] at e
      cases e3 : toPy x with
      | none => rw [e3] at e; cases e
      | some q =>
        cases e4 : toPys xs with
        | none => rw [e3, e4] at e; cases e
        | some qs => rw [e3, e4] at e; cases e; rfl
  rw [e2]
  exact k
def encS (x : Str × Str) : DV := .tup [.str x.1, .str x.2]
def BKv (nv kv lv uv dv sv gv : DV) : List (Key × DV) := [(Sum.inr (Str.ofString "names"), nv), (Sum.inr (Str.ofString "kind"), kv), (Sum.inr (Str.ofString "left"), lv), (Sum.inr (Str.ofString "used"), uv), (Sum.inr (Str.ofString "defs"), dv), (Sum.inr (Str.ofString "sets"), sv), (Sum.inr (Str.ofString "signs"), gv)]
structure BOk (ns : List Nm) (kd : Str) (dfs : List Df) (ss : List (Str × Str)) (sg : List Str) (us : List Str) : Prop where
  on : ∀ x ∈ ns, OkN x
  od : ∀ x ∈ dfs, OkD x
  os : ∀ x ∈ ss, KN x.1 ∧ IsName x.2
  ln : ns.length ≤ us.length + 500
  ls : ss.length ≤ us.length + 500
  ld : dfs.length ≤ 500
  sg : Sgs sg
  kd : KN kd ∨ kd = ""
theorem BOk.more {ns : List Nm} {kd : Str} {dfs : List Df} {ss : List (Str × Str)} {sg us us' : List Str} (h : BOk ns kd dfs ss sg us) (hl : us.length ≤ us'.length) : BOk ns kd dfs ss sg us' :=
  ⟨h.on, h.od, h.os, by have := h.ln; omega, by have := h.ls; omega, h.ld, h.sg, h.kd⟩
structure BSt (O : Own) (a c u : Addr) (dc : Cell) (ns : List Nm) (kd : Str) (l : Int) (dfs : List Df) (ss : List (Str × Str)) (sg : List Str) (us : List Str) : Prop where
  ac : a ≠ c
  au : a ≠ u
  cu : c ≠ u
  ha : O a = some dc
  hd : Dice dc
  hc : O c = some (.dK (BKv (.lst (ns.map encN)) (.str kd) (.int l) (.ref u) (.lst (dfs.map encDf)) (.lst (ss.map encS)) (.lst (sg.map DV.str))))
  hu : O u = some (.lst (us.map DV.str))
  ok : BOk ns kd dfs ss sg us
section
variable {O O' : Own} {a c u : Addr} {dc dc' : Cell} {ns : List Nm} {kd : Str} {l : Int} {dfs : List Df} {ss : List (Str × Str)} {sg us : List Str}
theorem BSt.dice (h : BSt O a c u dc ns kd l dfs ss sg us) (hd : Dice dc') : BSt (oset O a dc') a c u dc' ns kd l dfs ss sg us :=
  ⟨h.ac, h.au, h.cu, oset_same, hd, by rw [oset_ne (Ne.symm h.ac)]; exact h.hc, by rw [oset_ne (Ne.symm h.au)]; exact h.hu, h.ok⟩
theorem BSt.used (h : BSt O a c u dc ns kd l dfs ss sg us) (us' : List Str) (hl : us.length ≤ us'.length) : BSt (oset O u (.lst (us'.map DV.str))) a c u dc ns kd l dfs ss sg us' :=
  ⟨h.ac, h.au, h.cu, by rw [oset_ne h.au]; exact h.ha, h.hd, by rw [oset_ne h.cu]; exact h.hc, oset_same, h.ok.more hl⟩
theorem BSt.e (h : BSt O a c u dc ns kd l dfs ss sg us) (hl : us.length ≤ 150) : CtxE (BKv (.lst (ns.map encN)) (.str kd) (.int l) (.ref u) (.lst (dfs.map encDf)) (.lst (ss.map encS)) (.lst (sg.map DV.str))) ns dfs sg :=
  ⟨rfl, rfl, rfl, h.ok.on, h.ok.od, by have := h.ok.ln; omega, by have := h.ok.ld; omega, h.ok.sg⟩
end
end W1
set_option Elab.async false
set_option linter.all false
set_option maxRecDepth 100000
set_option maxHeartbeats 2000000
namespace W1
open PySem PySem.Spec PyProof.Rows L2 TL DL
def rows5 : List Str := ["", "const a = 1", "# x", "zz", " "]
def Row5 (r : Str) : Prop := r ∈ rows5
theorem row5_signs : ∀ r ∈ rows5, (∀ c ∈ tl r, 32 ≤ c ∧ c ≤ 126) ∧ (tl r).length ≤ 11 := by decide +kernel
theorem Row5.no {r : Str} (h : Row5 r) : 10 ∉ tl r := fun z => by
  have := (row5_signs r h).1 10 z
  omega
abbrev nlS : Str := Str.ofString "\n"
def jn (rows : List Str) : Str := Txt.join nlS rows
def nrm : List Str → List Str
  | [] => [""]
  | x :: r => x :: r
theorem nrm_ne (rows : List Str) : nrm rows ≠ [] := by cases rows <;> simp [nrm]
theorem jn_nrm (rows : List Str) : jn (nrm rows) = jn rows := by
  cases rows
  · decide +kernel
  · rfl
theorem nrm_ok {rows : List Str} (h : ∀ r ∈ rows, Row5 r) : ∀ r ∈ nrm rows, Row5 r := by
  cases rows with
  | nil => intro r hr; simp only [nrm, List.mem_singleton] at hr; subst hr; unfold Row5; decide
  | cons x r => exact h
theorem nrm_len {rows : List Str} : (nrm rows).length ≤ 60 ↔ rows.length ≤ 60 := by cases rows <;> simp [nrm]
theorem nrm_le {rows : List Str} : (nrm rows).length ≤ rows.length + 1 := by cases rows <;> simp [nrm]
theorem tl_jn (rows : List Str) : tl (jn rows) = TL.joinL [10] (rows.map tl) := by unfold jn; rw [TL.join_eq, TL.tl_join]; rfl
theorem joinL_mem2 {s : List Nat} {c : Nat} : ∀ {ps : List (List Nat)}, c ∈ TL.joinL s ps → c ∈ s ∨ ∃ p ∈ ps, c ∈ p
  | [], h => by simp [TL.joinL] at h
  | [p], h => by simp [TL.joinL] at h; exact .inr ⟨p, by simp, h⟩
  | p :: q :: r, h => by
    simp only [TL.joinL, List.mem_append] at h
    rcases h with h | h | h
    · exact .inr ⟨p, by simp, h⟩
    · exact .inl h
    · rcases joinL_mem2 h with h | ⟨x, hx, h⟩
      · exact .inl h
      · exact .inr ⟨x, List.mem_cons_of_mem _ hx, h⟩
theorem jn_signs {rows : List Str} (h : ∀ r ∈ rows, Row5 r) : ∀ c ∈ tl (jn rows), c = 10 ∨ (32 ≤ c ∧ c ≤ 126) := by
  intro c hc
  rw [tl_jn] at hc
  rcases joinL_mem2 hc with h1 | ⟨p, hp, h1⟩
  · exact .inl (by simpa using h1)
  · obtain ⟨r, hr, rfl⟩ := List.mem_map.mp hp
    exact .inr ((row5_signs r (h r hr)).1 c h1)
theorem jn_len {rows : List Str} (h : ∀ r ∈ rows, Row5 r) : (tl (jn rows)).length ≤ 12 * rows.length := by
  rw [tl_jn]
  have h1 := DL.joinL_len2 (sep := [10]) (rows.map tl)
  have h2 : ∀ {l : List Str}, (∀ r ∈ l, Row5 r) → ((l.map tl).map List.length).sum ≤ 11 * l.length := by
    intro l
    induction l with
    | nil => simp
    | cons x r ih =>
      intro hl
      have := (row5_signs x (hl x (by simp))).2
      have := ih fun y hy => hl y (List.mem_cons_of_mem _ hy)
      simp only [List.map_cons, List.sum_cons, List.length_cons]
      omega
  have h3 := h2 h
  simp only [List.length_map, List.length_singleton] at h1
  omega
theorem split_jn {rows : List Str} (hne : rows ≠ []) (h : ∀ r ∈ rows, Row5 r) : Txt.split (jn rows) nlS = rows :=
  split_join (y := nlS) (s := 10) (S := []) rfl (by decide +kernel) hne fun p hp => (h p hp).no
def TextR (z : Str) : Prop := ∃ rows : List Str, rows ≠ [] ∧ rows.length ≤ 60 ∧ (∀ r ∈ rows, Row5 r) ∧ z = jn rows
theorem TextR.split {z : Str} (h : TextR z) : Txt.split z nlS ≠ [] ∧ (Txt.split z nlS).length ≤ 60 ∧ (∀ r ∈ Txt.split z nlS, Row5 r) ∧ jn (Txt.split z nlS) = z := by
  obtain ⟨rows, h1, h2, h3, rfl⟩ := h
  rw [split_jn h1 h3]
  exact ⟨h1, h2, h3, rfl⟩
theorem TextR.len {z : Str} (h : TextR z) : z.length ≤ 720 := by
  obtain ⟨rows, h1, h2, h3, rfl⟩ := h
  have := jn_len h3
  rw [TL.len_tl]
  omega
def hK (m : List (Str × Str)) : List (Key × DV) := m.map fun x => ((Sum.inr x.1 : Key), DV.str x.2)
def lookM (m : List (Str × Str)) (f : Str) : Option Str := (m.find? fun x => decide (x.1 = f)).map (·.2)
def mput (m : List (Str × Str)) (f z : Str) : List (Str × Str) := if (m.any fun x => decide (x.1 = f)) = true then m.map (fun x => if x.1 = f then (x.1, z) else x) else m ++ [(f, z)]
def mdrop (m : List (Str × Str)) (f : Str) : List (Str × Str) := m.filter fun x => decide (x.1 ≠ f)
theorem hK_len (m : List (Str × Str)) : (hK m).length = m.length := List.length_map _
theorem hK_keys (m : List (Str × Str)) : (hK m).map (·.1) = (m.map (·.1)).map Sum.inr := by
  unfold hK; rw [List.map_map, List.map_map]; rfl
theorem dget_hK (m : List (Str × Str)) (f : Str) : dget (hK m) (Sum.inr f) = (lookM m f).map DV.str := by
  induction m with
  | nil => rfl
  | cons x r ih =>
    unfold dget hK lookM at *
    rw [List.map_cons, List.find?_cons, List.find?_cons]
    by_cases h : x.1 = f
    · simp [h]
    · have h2 : ¬ ((Sum.inr x.1 : Key) = Sum.inr f) := fun z => h (Sum.inr.inj z)
      simp only [h, h2, decide_false]
      exact ih
theorem dput_hK (m : List (Str × Str)) (f z : Str) : dput (hK m) (Sum.inr f) (.str z) = hK (mput m f z) := by
  have e : ((hK m).any fun kv => decide (kv.1 = (Sum.inr f : Key))) = m.any fun x => decide (x.1 = f) := by
    unfold hK
    rw [List.any_map]
    congr 1
    funext x
    simp
  unfold dput mput
  rw [e]
  split
  · unfold hK
    rw [List.map_map, List.map_map]
    congr 1
    funext x
    by_cases h : x.1 = f
    · simp [h]
    · simp [h]
  · unfold hK; simp
theorem dmerge_hK (m : List (Str × Str)) (f z : Str) : dmerge (hK m) [(Sum.inr f, .str z)] = hK (mput m f z) := dput_hK m f z
theorem dmerge_nil (m : List (Str × Str)) : dmerge (hK m) [] = hK m := rfl
theorem ddrop_hK (m : List (Str × Str)) (f : Str) : ddrop (hK m) (Sum.inr f) = hK (mdrop m f) := by
  unfold ddrop mdrop hK
  rw [List.filter_map]
  congr 1
  congr 1
  funext x
  simp
theorem look_mem {m : List (Str × Str)} {f z : Str} (h : lookM m f = some z) : (f, z) ∈ m := by
  unfold lookM at h
  obtain ⟨x, h1, rfl⟩ := Option.map_eq_some_iff.mp h
  have h2 := List.find?_some h1
  have h3 : x.1 = f := by simpa using h2
  rw [← h3]
  exact List.mem_of_find?_eq_some h1
theorem any_lookM (m : List (Str × Str)) (f : Str) : (m.any fun x => decide (x.1 = f)) = (lookM m f).isSome := by
  induction m with
  | nil => rfl
  | cons x r ih =>
    unfold lookM at *
    rw [List.any_cons, List.find?_cons, ih]
    by_cases h : x.1 = f
    · simp [h]
    · simp [h]
theorem mput_len {m : List (Str × Str)} {f z : Str} : (mput m f z).length = if (lookM m f).isSome = true then m.length else m.length + 1 := by
  unfold mput
  rw [any_lookM]
  split <;> simp
theorem mput_mem {m : List (Str × Str)} {f z : Str} {x : Str × Str} (h : x ∈ mput m f z) : x ∈ m ∨ x = (f, z) := by
  unfold mput at h
  split at h
  · obtain ⟨y, hy, rfl⟩ := List.mem_map.mp h
    by_cases e : y.1 = f
    · rw [if_pos e, e]; exact .inr rfl
    · rw [if_neg e]; exact .inl hy
  · rw [List.mem_append, List.mem_singleton] at h; exact h
def files10 : List Str := ["a", "b", "c", "d", "e", "f", "g", "h", "i", "j"]
structure MOk (m : List (Str × Str)) : Prop where
  l8 : m.length ≤ 8
  ok : ∀ x ∈ m, x.1 ∈ files10 ∧ TextR x.2
theorem MOk.nil : MOk [] := ⟨by simp, fun x hx => by cases hx⟩
theorem MOk.drop {m : List (Str × Str)} (h : MOk m) (f : Str) : MOk (mdrop m f) := ⟨Nat.le_trans (List.length_filter_le _ _) h.l8, fun x hx => h.ok x (List.mem_filter.mp hx).1⟩
theorem MOk.look {m : List (Str × Str)} (h : MOk m) {f z : Str} (e : lookM m f = some z) : TextR z := (h.ok _ (look_mem e)).2
def layOk (m : List (Str × Str)) (f : Str) (n : Nat) : Bool := decide (n ≤ 60) && ((lookM m f).isSome || decide (m.length < 8))
theorem MOk.put {m : List (Str × Str)} (h : MOk m) {f z : Str} (hf : f ∈ files10) (hz : TextR z) (hl : (lookM m f).isSome = true ∨ m.length < 8) : MOk (mput m f z) := by
  refine ⟨?_, fun x hx => ?_⟩
  · rw [mput_len]
    have := h.l8
    split
    · exact this
    · rename_i q; rcases hl with e | e
      · exact absurd e q
      · omega
  · rcases mput_mem hx with hx | rfl
    · exact h.ok x hx
    · exact ⟨hf, hz⟩
def cutG {α : Type} (xs : List α) (lo hi : Option Int) : List α := (xs.drop (HT.sIx xs.length 0 lo)).take (HT.sIx xs.length xs.length hi - HT.sIx xs.length 0 lo)
theorem cutD_map (xs : List Str) (lo hi : Option Int) : DL.cutD (xs.map DV.str) lo hi = (cutG xs lo hi).map DV.str := by
  unfold DL.cutD cutG
  rw [List.length_map, ← List.map_drop, ← List.map_take]
theorem cutG_mem {α : Type} {xs : List α} {lo hi : Option Int} {x : α} (h : x ∈ cutG xs lo hi) : x ∈ xs := List.mem_of_mem_drop (List.mem_of_mem_take h)
theorem cutG_len {α : Type} {xs : List α} {lo hi : Option Int} : (cutG xs lo hi).length ≤ xs.length := by
  unfold cutG; rw [List.length_take, List.length_drop]; omega
def newsS (olds : List Str) (row many : Int) (more : List Str) : List Str := cutG olds none (some (row - 1)) ++ more ++ cutG olds (some (row - 1 + many)) none
theorem newsS_len (olds : List Str) (row many : Int) (more : List Str) : (newsS olds row many more).length ≤ 2 * olds.length + more.length := by
  unfold newsS
  have h1 := cutG_len (xs := olds) (lo := none) (hi := some (row - 1))
  have h2 := cutG_len (xs := olds) (lo := some (row - 1 + many)) (hi := none)
  simp only [List.length_append]
  omega
theorem newsS_ok {olds : List Str} {row many : Int} {more : List Str} (h1 : ∀ r ∈ olds, Row5 r) (h2 : ∀ r ∈ more, Row5 r) : ∀ r ∈ newsS olds row many more, Row5 r := by
  intro r hr
  unfold newsS at hr
  simp only [List.mem_append] at hr
  rcases hr with (h | h) | h
  · exact h1 r (cutG_mem h)
  · exact h2 r h
  · exact h1 r (cutG_mem h)
def inR (n : Nat) (row many : Int) : Prop := (1 ≤ row ∧ row ≤ n + 1) ∧ (0 ≤ many ∧ many ≤ n + 1 - row)
instance (n : Nat) (row many : Int) : Decidable (inR n row many) := by unfold inR; infer_instance
def edQ (olds : List Str) (row many : Int) (more : List Str) : Option Str :=
  if inR olds.length row many then
    if ∀ r ∈ more, 10 ∉ tl r then
      if (newsS olds row many more).length ≤ 60 then none else some "house"
    else some "rows"
  else some "rows"
def edR (m : List (Str × Str)) (f : Str) (row many : Int) (more : List Str) : Option Str :=
  match lookM m f with
  | none => some "file"
  | some z => edQ (Txt.split z nlS) row many more
theorem edR_none {m : List (Str × Str)} {f : Str} {row many : Int} {more : List Str} (e : lookM m f = none) : edR m f row many more = some (Str.ofString "file") := by unfold edR; rw [e]
theorem edR_some {m : List (Str × Str)} {f z : Str} {row many : Int} {more : List Str} (e : lookM m f = some z) : edR m f row many more = edQ (Txt.split z nlS) row many more := by unfold edR; rw [e]
def dueV : Option Str → DV
  | none => .non
  | some nm => .tup [.str "refused", .str nm]
def badRow : Str := Str.ofString "a\nb"
def MoreOk (more : List Str) : Prop := ∃ rs : List Str, (∀ r ∈ rs, Row5 r) ∧ rs.length ≤ 62 ∧ (more = rs ∨ more = rs ++ [badRow])
theorem bad_nl : 10 ∈ tl badRow := by decide
theorem MoreOk.len {more : List Str} (h : MoreOk more) : more.length ≤ 63 := by
  obtain ⟨rs, h1, h2, rfl | rfl⟩ := h
  · omega
  · rw [List.length_append, List.length_singleton]; omega
theorem MoreOk.rows {more : List Str} (h : MoreOk more) (h2 : ∀ r ∈ more, 10 ∉ tl r) : ∀ r ∈ more, Row5 r := by
  obtain ⟨rs, h1, _, rfl | rfl⟩ := h
  · exact h1
  · exact absurd bad_nl (h2 badRow (by simp))
def cleanS (more : List Str) : List Str := more.filter fun r => !decide (10 ∈ tl r)
def dirtyS (more : List Str) : List Str := more.filter fun r => decide (10 ∈ tl r)
theorem clean_eq (more : List Str) : cleanS more = more ↔ ∀ r ∈ more, 10 ∉ tl r := by
  unfold cleanS
  rw [List.filter_eq_self]
  simp
theorem dirty_nil {more : List Str} (h : ∀ r ∈ more, 10 ∉ tl r) : dirtyS more = [] := by
  unfold dirtyS
  rw [List.filter_eq_nil_iff]
  simpa using h
theorem dirty_eq (more : List Str) : dirtyS more = [] ↔ ∀ r ∈ more, 10 ∉ tl r := by
  unfold dirtyS
  rw [List.filter_eq_nil_iff]
  simp
theorem edit_text {olds : List Str} {row many : Int} {more : List Str} (h1 : ∀ r ∈ olds, Row5 r) (h2 : ∀ r ∈ more, Row5 r) (h3 : (newsS olds row many more).length ≤ 60) : TextR (jn (newsS olds row many more)) :=
  ⟨nrm (newsS olds row many more), nrm_ne _, nrm_len.mpr h3, nrm_ok (newsS_ok h1 h2), (jn_nrm _).symm⟩
def TN (cH cR cF C : Addr) (nm : Str) : Prop := (C = cH ∧ nm = "house") ∨ (C = cR ∧ nm = "rows") ∨ (C = cF ∧ nm = "file")
theorem eqv_strs : ∀ xs ys : List Str, PyData.eqvAll (xs.map PyData.str) (ys.map PyData.str) = decide (xs = ys)
  | [], [] => rfl
  | [], _ :: _ => by simp [PyData.eqvAll]
  | _ :: _, [] => by simp [PyData.eqvAll]
  | x :: xs, y :: ys => by
    simp only [List.map_cons, PyData.eqvAll, PyData.eqv, eqv_strs xs ys]
    by_cases h1 : x = y <;> by_cases h2 : xs = ys <;> simp [h1, h2]
theorem toPys_strs : ∀ xs : List Str, toPys (xs.map DV.str) = some (xs.map PyData.str)
  | [] => rfl
  | x :: xs => by simp only [List.map_cons, toPys, toPy, toPys_strs xs]
theorem lay_strs : ∀ {xs : List Str}, (∀ x ∈ xs, x.cps.all (· < 0x110000) = true) → PyData.canLayAll0 (xs.map PyData.str) = true
  | [], _ => rfl
  | x :: xs, h => by
    have h1 : PyData.canLay0 (.str x) = true := h x (by simp)
    simp only [List.map_cons, PyData.canLayAll0, h1, lay_strs fun y hy => h y (List.mem_cons_of_mem _ hy)]
    rfl
theorem dep_strs : ∀ xs : List Str, PyData.depthAll (xs.map PyData.str) = 0
  | [] => rfl
  | x :: xs => by simp only [List.map_cons, PyData.depthAll, dep_strs xs, PyData.depth]; rfl
theorem eqP_strs {neg : Bool} {xs ys : List Str} {O : Own} {Q : DVK} (hx : ∀ x ∈ xs, x.cps.all (· < 0x110000) = true) (hy : ∀ x ∈ ys, x.cps.all (· < 0x110000) = true) (k : Q (.bl (if neg then !decide (xs = ys) else decide (xs = ys))) O) : dEqP neg (.lst (xs.map DV.str)) (.lst (ys.map DV.str)) O Q := by
  have sh : ∀ {l : List Str}, (∀ x ∈ l, x.cps.all (· < 0x110000) = true) → SeqAt.shaped (.list (l.map PyData.str)) = true := fun {l} h => by
    refine shaped_of (n := 1) ?_ ?_ (by decide)
    · show PyData.canLayAll0 _ = true
      exact lay_strs h
    · show PyData.depthAll _ + 1 ≤ 1
      rw [dep_strs]
      exact Nat.le_refl _
  unfold dEqP
  refine onSome_of (x := .list (xs.map PyData.str)) (by simp only [toPy, toPys_strs]) (onSome_of (x := .list (ys.map PyData.str)) (by simp only [toPy, toPys_strs]) ⟨sh hx, sh hy, ?_⟩)
  have e : PyData.eqv (.list (xs.map PyData.str)) (.list (ys.map PyData.str)) = decide (xs = ys) := eqv_strs xs ys
  rw [e]
  exact k
theorem row5_cps : ∀ r ∈ rows5, r.cps.all (· < 0x110000) = true := by decide +kernel
theorem MoreOk.cps {more : List Str} (h : MoreOk more) : ∀ r ∈ more, r.cps.all (· < 0x110000) = true := by
  obtain ⟨rs, h1, _, rfl | rfl⟩ := h
  · exact fun r hr => row5_cps r (h1 r hr)
  · intro r hr
    rw [List.mem_append, List.mem_singleton] at hr
    rcases hr with hr | rfl
    · exact row5_cps r (h1 r hr)
    · decide +kernel
theorem file_cps : ∀ r ∈ files10, r.cps.all (· < 0x110000) = true := by decide +kernel
theorem file_name : ∀ r ∈ files10, (tl r).length = 1 ∧ (∀ c ∈ tl r, c ∈ tl (Str.ofString "abcdefghijklmnopqrstuvwxyz")) := by decide +kernel
theorem due_pure {n : Nat} (r : Option Str) : Pure (n + 1) (dueV r) := by
  cases r with
  | none => exact .non
  | some nm =>
    refine .tup (fun x hx => ?_) (by simp)
    simp only [List.mem_cons, List.not_mem_nil, or_false] at hx
    rcases hx with rfl | rfl
    · exact .str _
    · exact .str _
theorem due_ne {nm : Str} {O : Own} {Q : DVK} (h : nm.cps.all (· < 0x110000) = true) (k : Q (.bl false) O) : dEqP true (.tup [.str "refused", .str nm]) (.tup [.str "refused", .str nm]) O Q := by
  have h1 : PureS 1 (.tup [.str "refused", .str nm]) := by
    refine .tup (n := 0) fun x hx => ?_
    simp only [List.mem_cons, List.not_mem_nil, or_false] at hx
    rcases hx with rfl | rfl
    · exact .str _ (by decide +kernel)
    · exact .str _ h
  obtain ⟨p, e, h2, h3⟩ := pure_py h1
  unfold dEqP
  refine onSome_of e (onSome_of e ⟨shaped_of h2 h3 (by omega), shaped_of h2 h3 (by omega), ?_⟩)
  rw [PySem.SeqAt.eqv_refl p h2]
  exact k
end W1
namespace W1
open PySem PySem.Spec PyProof.Rows L2 TL DL
def HsS (cH : Addr) (O : Own) (a p : Addr) : Prop := ∃ b c, O a = some (.ins cH [("texts", .ref p), ("made_of", .ref b), ("shown", .ref c), ("laid", .non)])
theorem lu_texts {x y z d : DV} : List.lookup (Str.ofString "texts") [(Str.ofString "texts", d), (Str.ofString "made_of", z), (Str.ofString "shown", y), (Str.ofString "laid", x)] = some d := rfl
theorem mh_need {x y z d : DV} : List.lookup (Str.ofString "need") [(Str.ofString "texts", d), (Str.ofString "made_of", z), (Str.ofString "shown", y), (Str.ofString "laid", x)] = none := rfl
theorem mh_lay {x y z d : DV} : List.lookup (Str.ofString "lay") [(Str.ofString "texts", d), (Str.ofString "made_of", z), (Str.ofString "shown", y), (Str.ofString "laid", x)] = none := rfl
theorem mh_edit {x y z d : DV} : List.lookup (Str.ofString "edit") [(Str.ofString "texts", d), (Str.ofString "made_of", z), (Str.ofString "shown", y), (Str.ofString "laid", x)] = none := rfl
theorem mh_drop {x y z d : DV} : List.lookup (Str.ofString "drop") [(Str.ofString "texts", d), (Str.ofString "made_of", z), (Str.ofString "shown", y), (Str.ofString "laid", x)] = none := rfl
theorem mh_text {x y z d : DV} : List.lookup (Str.ofString "text") [(Str.ofString "texts", d), (Str.ofString "made_of", z), (Str.ofString "shown", y), (Str.ofString "laid", x)] = none := rfl
theorem mh_all_files {x y z d : DV} : List.lookup (Str.ofString "all_files") [(Str.ofString "texts", d), (Str.ofString "made_of", z), (Str.ofString "shown", y), (Str.ofString "laid", x)] = none := rfl
theorem pu0 {d : DV} : dputF (Str.ofString "texts") d [] = [(Str.ofString "texts", d)] := rfl
theorem pu1 {d z : DV} : dputF (Str.ofString "made_of") z [(Str.ofString "texts", d)] = [(Str.ofString "texts", d), (Str.ofString "made_of", z)] := rfl
theorem pu2 {d z y : DV} : dputF (Str.ofString "shown") y [(Str.ofString "texts", d), (Str.ofString "made_of", z)] = [(Str.ofString "texts", d), (Str.ofString "made_of", z), (Str.ofString "shown", y)] := rfl
theorem pu3 {d z y x : DV} : dputF (Str.ofString "laid") x [(Str.ofString "texts", d), (Str.ofString "made_of", z), (Str.ofString "shown", y)] = [(Str.ofString "texts", d), (Str.ofString "made_of", z), (Str.ofString "shown", y), (Str.ofString "laid", x)] := rfl
theorem lcWO_filtS {ow : Bool} {p : Addr} {all : List DV} {b : DV → DSt → Option DSt} {tt : DTT} {te : DTE} {S : DSt} {Q : DVK} {O : Own} (pr : Str → Bool) (hp : O p = some (.lst all)) : ∀ (ks : List Str) (acc : List DV),
    (∀ k ∈ ks, ∀ K : Bool → Own → Prop, K (pr k) O → onSome (b (.str k) S) fun S2 => tt S2 O K) → (∀ k ∈ ks, ∀ K : DVK, K (.str k) O → onSome (b (.str k) S) fun S2 => te S2 O K) → acc.length + ks.length < 16000000 →
    endLc ow Q (acc ++ (ks.filter pr).map DV.str) O → lcWO ow p all b tt te S Q (ks.map DV.str) acc O
  | [], acc, _, _, _, h => by rw [List.filter_nil, List.map_nil, List.append_nil] at h; exact ⟨hp, h⟩
  | k :: ks, acc, h1, h2, hl, h => by
    rw [List.length_cons] at hl
    rw [List.map_cons]
    unfold lcWO
    refine ⟨hp, ?_⟩
    have hS2 : ∃ S2, b (.str k) S = some S2 := by
      obtain ⟨S2, e, _⟩ := onSome_ex (h1 k List.mem_cons_self (fun _ _ => True) trivial)
      exact ⟨S2, e⟩
    obtain ⟨S2, e⟩ := hS2
    have t1 : ∀ K : Bool → Own → Prop, K (pr k) O → tt S2 O K := fun K hK => by
      obtain ⟨S3, e3, h3⟩ := onSome_ex (h1 k List.mem_cons_self K hK)
      rw [e] at e3; cases e3; exact h3
    have t2 : ∀ K : DVK, K (.str k) O → te S2 O K := fun K hK => by
      obtain ⟨S3, e3, h3⟩ := onSome_ex (h2 k List.mem_cons_self K hK)
      rw [e] at e3; cases e3; exact h3
    refine onSome_of e (t1 _ ?_)
    cases hpr : pr k with
    | true =>
      rw [if_pos rfl]
      refine t2 _ ⟨by omega, lcWO_filtS pr hp ks _ (fun k hk => h1 k (List.mem_cons_of_mem _ hk)) (fun k hk => h2 k (List.mem_cons_of_mem _ hk)) (by rw [List.length_append]; simp; omega) ?_⟩
      rw [List.filter_cons_of_pos hpr] at h
      rw [List.append_assoc]; exact h
    | false =>
      rw [if_neg (by decide)]
      refine lcWO_filtS pr hp ks _ (fun k hk => h1 k (List.mem_cons_of_mem _ hk)) (fun k hk => h2 k (List.mem_cons_of_mem _ hk)) (by omega) ?_
      rw [List.filter_cons_of_neg (by rw [hpr]; decide)] at h
      exact h
theorem lst_nilS {neg : Bool} {xs : List Str} {O : Own} {Q : DVK} (h : ∀ x ∈ xs, x.cps.all (· < 0x110000) = true) (k : Q (.bl (if neg then !decide (xs = []) else decide (xs = []))) O) : dEqP neg (.lst (xs.map DV.str)) (.lst []) O Q := eqP_strs (ys := []) h (fun _ hx => by cases hx) k
theorem news_D (olds more : List Str) (row many : Int) : DL.cutD (olds.map DV.str) none (some (row - 1)) ++ more.map DV.str ++ DL.cutD (olds.map DV.str) (some (row - 1 + many)) none = (newsS olds row many more).map DV.str := by
  unfold newsS
  rw [cutD_map, cutD_map, List.map_append, List.map_append]
theorem jn_sum {rows : List Str} (h : ∀ r ∈ rows, (tl r).length ≤ 11) : (rows.map fun x => (tl x).length).sum ≤ 11 * rows.length := by
  induction rows with
  | nil => simp
  | cons x r ih =>
    have := h x (by simp)
    have := ih fun y hy => h y (List.mem_cons_of_mem _ hy)
    simp only [List.map_cons, List.sum_cons, List.length_cons]
    omega
theorem Row5.len {r : Str} (h : Row5 r) : (tl r).length ≤ 11 := (row5_signs r h).2
theorem strs_some (xs : List Str) : strsOf (xs.map DV.str) = some xs := by
  induction xs with
  | nil => rfl
  | cons x r ih => simp only [List.map_cons, strsOf, ih]
theorem textR_nil : TextR "" := ⟨([""] : List Str), by simp, by simp, fun r hr => by rw [List.mem_singleton] at hr; subst hr; unfold Row5; decide, by decide +kernel⟩
theorem MOk.getD {m : List (Str × Str)} (h : MOk m) (f : Str) : TextR ((lookM m f).getD "") := by
  cases e : lookM m f with
  | none => exact textR_nil
  | some z => exact h.look e
def due2 (olds : List Str) (row many : Int) (more : List Str) : DV := if inR olds.length row many then (if (newsS olds row many more).length ≤ 60 then .non else .tup [.str "refused", .str "house"]) else .tup [.str "refused", .str "rows"]
theorem due_rows {olds : List Str} {row many : Int} {more : List Str} (h : ¬ ∀ r ∈ more, 10 ∉ tl r) : edQ olds row many more = some (Str.ofString "rows") := by
  unfold edQ
  rw [if_neg h]
  split <;> rfl
theorem due_clean {olds : List Str} {row many : Int} {more : List Str} (h : ∀ r ∈ more, 10 ∉ tl r) : dueV (edQ olds row many more) = due2 olds row many more := by
  unfold edQ due2
  rw [if_pos h]
  split
  · split <;> rfl
  · rfl
theorem due2_no {olds : List Str} {row many : Int} {more : List Str} (h : inR olds.length row many) (h2 : (newsS olds row many more).length ≤ 60) : due2 olds row many more = .non := by unfold due2; rw [if_pos h, if_pos h2]
theorem due2_house {olds : List Str} {row many : Int} {more : List Str} (h : inR olds.length row many) (h2 : ¬ (newsS olds row many more).length ≤ 60) : due2 olds row many more = .tup [.str (Str.ofString "refused"), .str (Str.ofString "house")] := by unfold due2; rw [if_pos h, if_neg h2]
theorem due2_rows {olds : List Str} {row many : Int} {more : List Str} (h : ¬ inR olds.length row many) : due2 olds row many more = .tup [.str (Str.ofString "refused"), .str (Str.ofString "rows")] := by unfold due2; rw [if_neg h]
theorem edQ_none {olds : List Str} {row many : Int} {more : List Str} (h : edQ olds row many more = none) : (∀ r ∈ more, 10 ∉ tl r) ∧ (newsS olds row many more).length ≤ 60 := by
  unfold edQ at h
  split at h
  · split at h
    · rename_i h2
      split at h
      · exact ⟨h2, by assumption⟩
      · cases h
    · cases h
  · cases h
theorem jn_size {rows : List Str} (h : ∀ r ∈ rows, Row5 r) (hl : rows.length ≤ 200) : (rows.map fun x => (tl x).length).sum + rows.length * (tl (Str.ofString "\n")).length ≤ 16777216 := by
  have h1 := jn_sum fun r hr => (h r hr).len
  have z4 : (tl (Str.ofString "\n")).length = 1 := rfl
  rw [z4]; omega
theorem file_at {r : Int} (h0 : 0 ≤ r) (h1 : r < 10) : ∃ c : Nat, atI (tl (Str.ofString "abcdefghij")) r = some c ∧ (Str.mk #[c]) ∈ files10 := by
  have h : r = 0 ∨ r = 1 ∨ r = 2 ∨ r = 3 ∨ r = 4 ∨ r = 5 ∨ r = 6 ∨ r = 7 ∨ r = 8 ∨ r = 9 := by omega
  rcases h with rfl | rfl | rfl | rfl | rfl | rfl | rfl | rfl | rfl | rfl <;> exact ⟨_, rfl, by unfold files10; decide⟩
theorem size_at {q : Int} (h0 : 0 ≤ q) (h1 : q < 8) : ∃ mx : Int, atI ([.int 4, .int 63] : List DV) (q / 7) = some (.int mx) ∧ 0 < mx ∧ mx ≤ 63 := by
  have h : q / 7 = 0 ∨ q / 7 = 1 := by omega
  rcases h with h | h <;> rw [h]
  · exact ⟨4, rfl, by decide, by decide⟩
  · exact ⟨63, rfl, by decide, by decide⟩
theorem layOk_nrm {m : List (Str × Str)} {f : Str} {rows : List Str} : layOk m f (nrm rows).length = layOk m f rows.length := by
  unfold layOk
  rw [show decide ((nrm rows).length ≤ 60) = decide (rows.length ≤ 60) from decide_eq_decide.mpr nrm_len]
theorem lay_put {m : List (Str × Str)} {f : Str} {rows : List Str} (hm : MOk m) (hf : f ∈ files10) (hr : ∀ r ∈ rows, Row5 r) (h : layOk m f rows.length = true) : MOk (mput m f (jn rows)) := by
  unfold layOk at h
  rw [Bool.and_eq_true, decide_eq_true_eq, Bool.or_eq_true, decide_eq_true_eq] at h
  exact hm.put hf ⟨nrm rows, nrm_ne _, nrm_len.mpr h.1, nrm_ok hr, (jn_nrm _).symm⟩ h.2
theorem many_at {x q : Int} (h0 : 0 ≤ q) (h1 : q < 20) : ∃ y : Int, atI ([.int x, .int (-1)] : List DV) (q / 19) = some (.int y) := by
  have h : q / 19 = 0 ∨ q / 19 = 1 := by omega
  rcases h with h | h <;> rw [h]
  · exact ⟨x, rfl⟩
  · exact ⟨-1, rfl⟩
theorem row_at {x l q : Int} (h0 : 0 ≤ q) (h1 : q < 8) : ∃ y : Int, atI ([.int x, .int x, .int x, .int x, .int x, .int x, .int 0, .int l] : List DV) q = some (.int y) := by
  have h : q = 0 ∨ q = 1 ∨ q = 2 ∨ q = 3 ∨ q = 4 ∨ q = 5 ∨ q = 6 ∨ q = 7 := by omega
  rcases h with rfl | rfl | rfl | rfl | rfl | rfl | rfl | rfl <;> exact ⟨_, rfl⟩
theorem keys_cps {m : List (Str × Str)} (h : MOk m) {ys : List Str} (hp : ys.Perm (m.map (·.1))) : ∀ y ∈ ys, y.cps.all (· < 0x110000) = true := fun y hy => by
  obtain ⟨x, hx, rfl⟩ := List.mem_map.mp (hp.mem_iff.mp hy)
  exact file_cps _ (h.ok x hx).1
structure LwS (cH t1 t2 : Addr) (q1 q2 : Str) (O : Own) (d a p t : Addr) (m : List (Str × Str)) : Prop where
  hs : HsS cH O a p
  pp : O p = some (.dK (hK m))
  tt : O t = some (.dK (hK m))
  tp : t ≠ p
  dd : ∃ c, O d = some c ∧ Dice c
  mm : MOk m
  tb1 : O t1 = some (.tbl q1)
  tb2 : O t2 = some (.tbl q2)
variable {cH t1 t2 : Addr} {q1 q2 : Str} {O O' : Own} {d a p t : Addr} {m m' : List (Str × Str)}
theorem dice_lst {c : Cell} (h : Dice c) : ∃ xs, c = .lst xs := by
  obtain ⟨ns, p, m, k, rfl, _⟩ := h
  exact ⟨_, rfl⟩
theorem LwS.ap (L : LwS cH t1 t2 q1 q2 O d a p t m) : a ≠ p ∧ a ≠ t := by
  obtain ⟨b, c, h⟩ := L.hs
  exact ⟨fun z => (by rw [z, L.pp] at h; cases h), fun z => (by rw [z, L.tt] at h; cases h)⟩
theorem LwS.dn (L : LwS cH t1 t2 q1 q2 O d a p t m) : a ≠ d ∧ p ≠ d ∧ t ≠ d ∧ t1 ≠ d ∧ t2 ≠ d := by
  obtain ⟨c, hc, hD⟩ := L.dd
  obtain ⟨xs, rfl⟩ := dice_lst hD
  obtain ⟨b, c, h⟩ := L.hs
  refine ⟨fun z => ?_, fun z => ?_, fun z => ?_, fun z => ?_, fun z => ?_⟩
  · rw [z, hc] at h; cases h
  · have := L.pp; rw [z, hc] at this; cases this
  · have := L.tt; rw [z, hc] at this; cases this
  · have := L.tb1; rw [z, hc] at this; cases this
  · have := L.tb2; rw [z, hc] at this; cases this
theorem LwS.dice (L : LwS cH t1 t2 q1 q2 O d a p t m) {c : Cell} (hc : Dice c) : LwS cH t1 t2 q1 q2 (oset O d c) d a p t m := by
  obtain ⟨n1, n2, n3, n4, n5⟩ := L.dn
  obtain ⟨b, e, h⟩ := L.hs
  exact ⟨⟨b, e, (oset_ne n1).trans h⟩, (oset_ne n2).trans L.pp, (oset_ne n3).trans L.tt, L.tp, ⟨c, oset_same, hc⟩, L.mm, (oset_ne n4).trans L.tb1, (oset_ne n5).trans L.tb2⟩
theorem LwS.put (L : LwS cH t1 t2 q1 q2 O d a p t m) (F : Fr O O' [p, t]) (hp : O' p = some (.dK (hK m'))) (ht : O' t = some (.dK (hK m'))) (hm : MOk m') : LwS cH t1 t2 q1 q2 O' d a p t m' := by
  obtain ⟨n1, n2, n3, n4, n5⟩ := L.dn
  obtain ⟨a1, a2⟩ := L.ap
  obtain ⟨b, e, h⟩ := L.hs
  obtain ⟨c, hc, hD⟩ := L.dd
  have nt : ∀ {x : Addr} {q : Str}, O x = some (.tbl q) → x ∉ [p, t] := fun {x q} hx => by
    simp only [List.mem_cons, List.not_mem_nil, or_false, not_or]
    exact ⟨fun z => (by rw [z, L.pp] at hx; cases hx), fun z => (by rw [z, L.tt] at hx; cases hx)⟩
  refine ⟨⟨b, e, F.at h ?_⟩, hp, ht, L.tp, ⟨c, F.at hc ?_, hD⟩, hm, F.at L.tb1 (nt L.tb1), F.at L.tb2 (nt L.tb2)⟩
  · simp only [List.mem_cons, List.not_mem_nil, or_false, not_or]; exact ⟨a1, a2⟩
  · simp only [List.mem_cons, List.not_mem_nil, or_false, not_or]; exact ⟨Ne.symm n2, Ne.symm n3⟩
theorem LwS.fr (L : LwS cH t1 t2 q1 q2 O d a p t m) (F : Fr O O' []) : LwS cH t1 t2 q1 q2 O' d a p t m := L.put (F.wk (by simp)) (F.at L.pp (by simp)) (F.at L.tt (by simp)) L.mm
theorem LwS.new (L : LwS cH t1 t2 q1 q2 O d a p t m) {x : Addr} {c : Cell} (hx : O x = none) : LwS cH t1 t2 q1 q2 (oset O x c) d a p t m := L.fr (DL.Fr.set Fr.refl (.inr hx))
end W1
set_option Elab.async false
set_option linter.all false
set_option maxRecDepth 100000
namespace W1
open PySem PySem.Spec PyProof.Rows L2 TL DL
structure Pl where
  w : Str
  out : Bool
  n : Str
  ps : List (Str × Str)
  kd : Str
structure At where
  w : Str
  f : Str
  n : Str
  ps : List (Str × Str)
  kd : Str
def encAt (p : At) : DV := .tup [.str p.w, .str p.f, .str p.n, .tup (p.ps.map encP), .str p.kd]
def OkP (ps : List (Str × Str)) : Prop := ps.length ≤ 3 ∧ ∀ q ∈ ps, IsName q.1 ∧ KN q.2
def KdW (w kd : Str) : Prop := ((w = "const" ∨ w = "keep") ∧ KN kd) ∨ (w = "def" ∧ (KN kd ∨ kd = ""))
def OkPl (p : Pl) : Prop := IsName p.n ∧ OkP p.ps ∧ KdW p.w p.kd
theorem KdW.kn {w kd : Str} (h : KdW w kd) (hw : w ≠ "def") : KN kd := by
  rcases h with ⟨_, h⟩ | ⟨h, _⟩
  · exact h
  · exact absurd h hw
theorem KdW.any {w kd : Str} (h : KdW w kd) : KN kd ∨ kd = "" := by
  rcases h with ⟨_, h⟩ | ⟨_, h⟩
  · exact .inl h
  · exact h
theorem OkP.le {ps : List (Str × Str)} (h : OkP ps) : ∀ p ∈ ps, (tl p.1).length ≤ 10 ∧ (tl p.2).length ≤ 3 := fun p hp => by
  obtain ⟨h1, h2⟩ := h.2 p hp
  refine ⟨by have := isName_len h1; omega, ?_⟩
  rcases h2 with h2 | h2 <;> rw [h2] <;> decide
def toN (x : At) : Nm := (x.kd, x.f, x.n)
def toDf (x : At) : Df := (x.f, x.n, x.ps.map (·.2), x.kd)
def toS (x : At) : Str × Str := (x.kd, x.n)
def pN (q : Str × Str) : Nm := (q.2, Str.ofString "", q.1)
def pS (q : Str × Str) : Str × Str := (q.2, q.1)
theorem keep_at {O : Own} {p : Addr} {X : Cell} (hp : O p = none) {x : Addr} {c : Cell} (h : O x = some c) : oset O p X x = some c := by rw [oset_ne (ne_of h hp)]; exact h
def encU (u : Str) : DV := .tup [.non, .str u]
def encFl (e : Str × List Str × List Td) : Key × DV := (Sum.inr e.1, .tup [.tup (e.2.1.map encU), .tup (e.2.2.map encT)])
def encFa (e : Str × List At) : Key × DV := (Sum.inr e.1, .lst (e.2.map encAt))
structure HSt (O : Own) (a pF pA pL : Addr) (dc : Cell) (es : List (Str × List Str × List Td)) (fa : List (Str × List At)) (fs : List Str) : Prop where
  aF : a ≠ pF
  aA : a ≠ pA
  aL : a ≠ pL
  FA : pF ≠ pA
  FL : pF ≠ pL
  AL : pA ≠ pL
  ha : O a = some dc
  hd : Dice dc
  hF : O pF = some (.dK (es.map encFl))
  hA : O pA = some (.dK (fa.map encFa))
  hL : O pL = some (.lst (fs.map DV.str))
section
variable {O O' : Own} {a pF pA pL : Addr} {dc dc' : Cell} {es es' : List (Str × List Str × List Td)} {fa fa' : List (Str × List At)} {fs fs' : List Str}
theorem HSt.dice (h : HSt O a pF pA pL dc es fa fs) (hd : Dice dc') : HSt (oset O a dc') a pF pA pL dc' es fa fs :=
  ⟨h.aF, h.aA, h.aL, h.FA, h.FL, h.AL, oset_same, hd, by rw [oset_ne (Ne.symm h.aF)]; exact h.hF, by rw [oset_ne (Ne.symm h.aA)]; exact h.hA, by rw [oset_ne (Ne.symm h.aL)]; exact h.hL⟩
theorem HSt.sets (h : HSt O a pF pA pL dc es fa fs) {x : Addr} {X : Cell} (hx : x ∉ [a, pF, pA, pL]) : HSt (oset O x X) a pF pA pL dc es fa fs := by
  simp only [List.mem_cons, List.not_mem_nil, or_false, not_or] at hx
  obtain ⟨h1, h2, h3, h4⟩ := hx
  exact ⟨h.aF, h.aA, h.aL, h.FA, h.FL, h.AL, by rw [oset_ne (Ne.symm h1)]; exact h.ha, h.hd, by rw [oset_ne (Ne.symm h2)]; exact h.hF, by rw [oset_ne (Ne.symm h3)]; exact h.hA, by rw [oset_ne (Ne.symm h4)]; exact h.hL⟩
theorem HSt.new (h : HSt O a pF pA pL dc es fa fs) {x : Addr} (hx : O x = none) : x ∉ [a, pF, pA, pL] := by
  have h1 := ne_of h.ha hx
  have h2 := ne_of h.hF hx
  have h3 := ne_of h.hA hx
  have h4 := ne_of h.hL hx
  simp [Ne.symm h1, Ne.symm h2, Ne.symm h3, Ne.symm h4]
theorem HSt.face (h : HSt O a pF pA pL dc es fa fs) : HSt (oset O pA (.dK (fa'.map encFa))) a pF pA pL dc es fa' fs :=
  ⟨h.aF, h.aA, h.aL, h.FA, h.FL, h.AL, by rw [oset_ne h.aA]; exact h.ha, h.hd, by rw [oset_ne h.FA]; exact h.hF, oset_same, by rw [oset_ne (Ne.symm h.AL)]; exact h.hL⟩
theorem HSt.fr (h : HSt O a pF pA pL dc es fa fs) (f : Fr O O' [a]) (ha : O' a = some dc') (hd : Dice dc') : HSt O' a pF pA pL dc' es fa fs :=
  ⟨h.aF, h.aA, h.aL, h.FA, h.FL, h.AL, ha, hd, f.at h.hF (by simp [Ne.symm h.aF]), f.at h.hA (by simp [Ne.symm h.aA]), f.at h.hL (by simp [Ne.symm h.aL])⟩
end
def plA (f : Str) (p : Pl) : At := ⟨p.w, f, p.n, p.ps, p.kd⟩
end W1
set_option Elab.async false
set_option linter.all false
set_option maxRecDepth 100000
namespace W1
open PySem PySem.Spec PyProof.Rows L2 TL DL
abbrev letters : List Nat := tl "abcdefghijklmnopqrstuvwxyz"
abbrev figs : List Nat := tl "0123456789"
abbrev ownW : List Str := ["use", "const", "keep", "out", "def", "num", "yes", "no", "let", "if", "else", "while", "end", "give", "say", "do", "or", "and", "not", "mod"]
abbrev signsW : List Str := ["<>", "<=", "(", ")", ",", ".", "=", "<", "+", "-", "*", "/"]
def spanIn (g r : List Nat) : List Nat := r.takeWhile (fun c => decide (c ∈ g))
def wordL (r : List Nat) : Str × List Nat := match r with
  | [] => ("", [])
  | c :: _ => if c ∈ letters then (if ofL (spanIn letters r) ∈ ownW then "own" else if (spanIn letters r).length ≤ 6 then "name" else "", spanIn letters r)
    else if c ∈ figs then (if (spanIn figs r).length ≤ 6 ∧ (spanIn figs r = [48] ∨ c ≠ 48) then "num" else "", spanIn figs r)
    else match signsW.find? (fun s => decide (r.take (tl s).length = tl s)) with
      | some s => ("sign", tl s)
      | none => ("", [c])
end W1
namespace W1
open PySem PySem.Spec PyProof.Rows L2 TL DL
abbrev Wd := Str × List Nat × Nat
inductive Scan : List Nat → Nat → List Wd → Prop
  | nil (e : Nat) : Scan [] e []
  | rem (r : List Nat) (e : Nat) : Scan (35 :: r) e []
  | blank {r : List Nat} {e : Nat} {ws : List Wd} : Scan r (e + 1) ws → Scan (32 :: r) e ws
  | word {c : Nat} {r : List Nat} {e : Nat} {k : Str} {w : List Nat} {ws : List Wd} : c ≠ 35 → c ≠ 32 → wordL (c :: r) = (k, w) → k ≠ "" → Scan ((c :: r).drop w.length) (e + w.length) ws → Scan (c :: r) e ((k, w, e) :: ws)
def encW (n : Int) : Wd → DV := fun x => .tup [.str x.1, .str (ofL x.2.1), .tup [.int n, .int ((x.2.2 : Int) + 1)]]
end W1
namespace W1
open PySem PySem.Spec PyProof.Rows L2 TL DL
def ScanRows : List Str → List (List Wd) → Prop
  | [], [] => True
  | r :: rs, ws :: wss => Scan (tl r) 0 ws ∧ ScanRows rs wss
  | _, _ => False
def encAll : Nat → List (List Wd) → List DV
  | _, [] => []
  | n, ws :: wss => ws.map (encW ((n : Int) + 1)) ++ encAll (n + 1) wss
theorem scanRows_len : ∀ {rs : List Str} {wss : List (List Wd)}, ScanRows rs wss → rs.length = wss.length
  | [], [], _ => rfl
  | _ :: rs, _ :: wss, h => by simp [scanRows_len h.2]
  | [], _ :: _, h => h.elim
  | _ :: _, [], h => h.elim
end W1
set_option Elab.async false
set_option linter.all false
set_option maxRecDepth 100000
namespace W1
open PySem PySem.Spec PyProof.Rows L2 TL DL
def plW (n : Int) (t : Wd) : DV := .tup [.int n, .int ((t.2.2 : Int) + 1)]
def isNx (xs : List Str) : Option Wd → Bool
  | none => false
  | some t => (t.1 = "sign" ∨ t.1 = "own") && decide (ofL t.2.1 ∈ xs)
def opsAt : Nat → List Str
  | 0 => ["or"]
  | 1 => ["and"]
  | 3 => ["=", "<>", "<", "<="]
  | 4 => ["+", "-"]
  | 5 => ["*", "/", "mod"]
  | _ => []
def kindOf (s : Str) : Str := if s ∈ (["or", "and", "mod"] : List Str) then "own" else "sign"
def stops : Nat → List Str
  | 0 => ["or", "and", "=", "<>", "<", "<=", "+", "-", "*", "/", "mod", "(", "."]
  | 1 => ["and", "=", "<>", "<", "<=", "+", "-", "*", "/", "mod", "(", "."]
  | 2 => ["=", "<>", "<", "<=", "+", "-", "*", "/", "mod", "(", "."]
  | 3 => ["=", "<>", "<", "<=", "+", "-", "*", "/", "mod", "(", "."]
  | 4 => ["+", "-", "*", "/", "mod", "(", "."]
  | 5 => ["*", "/", "mod", "(", "."]
  | _ => ["(", "."]
def Stop (l : Nat) (rest : List Wd) : Prop := isNx (stops l) rest.head? = false
def heads : Nat → List Str
  | 0 => ["yes", "no", "(", "-", "not"]
  | 1 => ["yes", "no", "(", "-", "not"]
  | 2 => ["yes", "no", "(", "-", "not"]
  | 7 => ["yes", "no", "("]
  | _ => ["yes", "no", "(", "-"]
def sg (s : Str) (c : Nat) : Wd := ("sign", tl s, c)
def ow (s : Str) (c : Nat) : Wd := ("own", tl s, c)
def nmW (s : Str) (c : Nat) : Wd := ("name", tl s, c)
inductive DotW : List Wd → Str → Str → Nat → Prop
  | one {m : Str} {c : Nat} : DotW [nmW m c] "" m c
  | two {f m : Str} {c c1 c2 : Nat} : DotW [nmW f c, sg "." c1, nmW m c2] f m c
abbrev Pt := Nat × List Wd × DV
def tailT (ps : List Pt) : List Wd := ps.flatMap fun p => sg "," p.1 :: p.2.1
def partsT : List Pt → List Wd
  | [] => []
  | p :: ps => p.2.1 ++ tailT ps
def lfOf (l : Nat) : Nat := if l = 3 then 4 else l
def plC (n : Int) (c : Nat) : DV := .tup [.int n, .int ((c : Int) + 1)]
inductive Wr (n : Int) : Nat → Nat → List Wd → DV → Prop
  | num {δ c : Nat} {w : List Nat} {i : Int} : PySem.intText? (ofL w) = some i → w.length ≤ 640 → Wr n 7 δ [("num", w, c)] (.tup [.str "num", plC n c, .int i])
  | tru {δ c : Nat} {b : Bool} : Wr n 7 δ [ow (if b then "yes" else "no") c] (.tup [.str "truth", plC n c, .bl b])
  | nam {δ c : Nat} {ts : List Wd} {f m : Str} : DotW ts f m c → Wr n 7 δ ts (.tup [.str "name", plC n c, .str f, .str m])
  | cal {δ c c1 c2 : Nat} {ts : List Wd} {f m : Str} {ps : List Pt} : DotW ts f m c → ps.length ≤ 1000 → (∀ p ∈ ps, Wr n 0 δ p.2.1 p.2.2) → Wr n 7 (δ + 1) (ts ++ (sg "(" c1 :: partsT ps ++ [sg ")" c2])) (.tup [.str "call", plC n c, .str f, .str m, .tup (ps.map fun p => p.2.2)])
  | brk {δ c1 c2 : Nat} {ts : List Wd} {v : DV} : Wr n 0 δ ts v → Wr n 7 (δ + 1) (sg "(" c1 :: ts ++ [sg ")" c2]) v
  | neg {δ c : Nat} {ts : List Wd} {v : DV} : Wr n 6 δ ts v → Wr n 6 (δ + 1) (sg "-" c :: ts) (.tup [.str "neg", plC n c, v])
  | not {δ c : Nat} {ts : List Wd} {v : DV} : Wr n 2 δ ts v → Wr n 2 (δ + 1) (ow "not" c :: ts) (.tup [.str "not", plC n c, v])
  | bin {l δ c : Nat} {op : Str} {ts us : List Wd} {v u : DV} : op ∈ opsAt l → Wr n (lfOf l) δ ts v → Wr n (l + 1) δ us u → Wr n l δ (ts ++ (kindOf op, tl op, c) :: us) (.tup [.str op, plC n c, v, u])
  | up {l δ : Nat} {ts : List Wd} {v : DV} : l < 7 → Wr n (l + 1) δ ts v → Wr n l δ ts v
theorem Wr.mono {n : Int} {l δ δ' : Nat} {ts : List Wd} {v : DV} (h : Wr n l δ ts v) (hd : δ ≤ δ') : Wr n l δ' ts v := by
  induction h generalizing δ' with
  | num h1 h2 => exact .num h1 h2
  | tru => exact .tru
  | nam h => exact .nam h
  | cal h1 h2 h3 ih =>
    obtain ⟨k, rfl⟩ : ∃ k, δ' = k + 1 := ⟨δ' - 1, by omega⟩
    exact .cal h1 h2 fun p hp => ih p hp (by omega)
  | brk h ih =>
    obtain ⟨k, rfl⟩ : ∃ k, δ' = k + 1 := ⟨δ' - 1, by omega⟩
    exact .brk (ih (by omega))
  | neg h ih =>
    obtain ⟨k, rfl⟩ : ∃ k, δ' = k + 1 := ⟨δ' - 1, by omega⟩
    exact .neg (ih (by omega))
  | not h ih =>
    obtain ⟨k, rfl⟩ : ∃ k, δ' = k + 1 := ⟨δ' - 1, by omega⟩
    exact .not (ih (by omega))
  | bin h1 h2 h3 ih2 ih3 => exact .bin h1 (ih2 hd) (ih3 hd)
  | up h1 h ih => exact .up h1 (ih hd)
theorem Wr.le {n : Int} {l δ : Nat} {ts : List Wd} {v : DV} (h : Wr n l δ ts v) : l ≤ 7 := by
  induction h with
  | bin h1 _ _ _ ih => omega
  | up h1 _ _ => omega
  | _ => omega
theorem Wr.ups {n : Int} {δ : Nat} {ts : List Wd} {v : DV} : ∀ {k l : Nat}, Wr n (l + k) δ ts v → Wr n l δ ts v
  | 0, l, h => h
  | k + 1, l, h => .up (by have := h.le; omega) (Wr.ups (k := k) (l := l + 1) (by rw [show l + 1 + k = l + (k + 1) by omega]; exact h))
theorem Wr.to {n : Int} {l l' δ : Nat} {ts : List Wd} {v : DV} (h : Wr n l' δ ts v) (hl : l ≤ l') : Wr n l δ ts v :=
  Wr.ups (k := l' - l) (by rw [show l + (l' - l) = l' by omega]; exact h)
def Hd (l : Nat) (t : Wd) : Prop := t.1 = "num" ∨ t.1 = "name" ∨ isNx (heads l) (some t) = true
theorem Hd.mono {l l' : Nat} {t : Wd} (h : Hd l' t) (hl : ∀ x ∈ heads l', x ∈ heads l) : Hd l t := by
  rcases h with h | h | h
  · exact .inl h
  · exact .inr (.inl h)
  · refine .inr (.inr ?_)
    simp only [isNx, Bool.and_eq_true, decide_eq_true_eq] at h ⊢
    exact ⟨h.1, hl _ h.2⟩
theorem heads_step : ∀ l, l < 7 → ∀ x ∈ heads (l + 1), x ∈ heads l := by decide +kernel
theorem heads_lf : ∀ l, l < 6 → ∀ x ∈ heads (lfOf l), x ∈ heads l := by decide +kernel
theorem opsAt_lt {l : Nat} {op : Str} (h : op ∈ opsAt l) : l < 6 := by
  unfold opsAt at h
  split at h <;> first | omega | cases h
theorem Dot_hd {ts : List Wd} {f m : Str} {c : Nat} (h : DotW ts f m c) : ∃ g r, ts = nmW g c :: r := by
  cases h with
  | one => exact ⟨_, _, rfl⟩
  | two => exact ⟨_, _, rfl⟩
theorem Wr.hd {n : Int} {l δ : Nat} {ts : List Wd} {v : DV} (h : Wr n l δ ts v) : ∃ t r, ts = t :: r ∧ Hd l t := by
  induction h with
  | num h1 h2 => exact ⟨_, _, rfl, .inl rfl⟩
  | @tru δ c b => exact ⟨_, _, rfl, .inr (.inr (by cases b <;> rfl))⟩
  | nam h => obtain ⟨g, r, rfl⟩ := Dot_hd h; exact ⟨_, _, rfl, .inr (.inl rfl)⟩
  | cal h1 h2 h3 ih => obtain ⟨g, r, rfl⟩ := Dot_hd h1; exact ⟨_, _, rfl, .inr (.inl rfl)⟩
  | brk h ih => exact ⟨_, _, rfl, .inr (.inr rfl)⟩
  | neg h ih => exact ⟨_, _, rfl, .inr (.inr rfl)⟩
  | not h ih => exact ⟨_, _, rfl, .inr (.inr rfl)⟩
  | bin h1 h2 h3 ih2 ih3 =>
    obtain ⟨t, r, rfl, ht⟩ := ih2
    exact ⟨t, _, rfl, ht.mono (heads_lf _ (opsAt_lt h1))⟩
  | up h1 h ih =>
    obtain ⟨t, r, rfl, ht⟩ := ih
    exact ⟨t, _, rfl, ht.mono (heads_step _ h1)⟩
theorem stop_not {l : Nat} {rest : List Wd} {xs : List Str} (h : Stop l rest) (hx : ∀ x ∈ xs, x ∈ stops l) : isNx xs rest.head? = false := by
  unfold Stop at h
  cases e : rest.head? with
  | none => rfl
  | some t =>
    rw [e] at h
    cases q : isNx xs (some t) with
    | false => rfl
    | true =>
      simp only [isNx, Bool.and_eq_true, decide_eq_true_eq] at q
      have : isNx (stops l) (some t) = true := by
        simp only [isNx, Bool.and_eq_true, decide_eq_true_eq]
        exact ⟨q.1, hx _ q.2⟩
      rw [this] at h; cases h
theorem Stop.mono {l l' : Nat} {rest : List Wd} (h : Stop l rest) (hx : ∀ x ∈ stops l', x ∈ stops l) : Stop l' rest := stop_not h hx
theorem stops_up : ∀ l, l < 7 → ∀ x ∈ stops (l + 1), x ∈ stops l := by decide +kernel
theorem Stop.up {l : Nat} {rest : List Wd} (h : Stop l rest) (hl : l < 7) : Stop (l + 1) rest := h.mono (stops_up l hl)
inductive Rst (n : Int) (l δ : Nat) : DV → List Wd → DV → Prop
  | nil {v : DV} : Rst n l δ v [] v
  | cons {op : Str} {c : Nat} {us rs : List Wd} {v0 u v : DV} : op ∈ opsAt l → Wr n (l + 1) δ us u → Rst n l δ (.tup [.str op, plC n c, v0, u]) rs v → Rst n l δ v0 ((kindOf op, tl op, c) :: us ++ rs) v
theorem Rst.snoc {n : Int} {l δ : Nat} {v0 v : DV} {rs : List Wd} (h : Rst n l δ v0 rs v) {op : Str} {c : Nat} {us : List Wd} {u : DV} (ho : op ∈ opsAt l) (hu : Wr n (l + 1) δ us u) :
    Rst n l δ v0 (rs ++ (kindOf op, tl op, c) :: us) (.tup [.str op, plC n c, v, u]) := by
  induction h with
  | nil => simpa using Rst.cons ho hu .nil
  | cons h1 h2 h3 ih => simpa using Rst.cons h1 h2 ih
theorem Wr.two {n : Int} {δ : Nat} {ts : List Wd} {v : DV} (h : Wr n 2 δ ts v) : Wr n 3 δ ts v ∨ ∃ c us a δ', δ = δ' + 1 ∧ ts = ow "not" c :: us ∧ v = .tup [.str "not", plC n c, a] ∧ Wr n 2 δ' us a := by
  cases h with
  | bin h1 h2 h3 => cases h1
  | up h1 h => exact .inl h
  | not h => exact .inr ⟨_, _, _, _, rfl, rfl, rfl, h⟩
theorem ops_stop : ∀ l, l < 6 → ∀ x ∈ opsAt l, x ∈ stops l ∧ x ∉ stops (l + 1) := by decide +kernel
theorem stop_op {l : Nat} {op : Str} {c : Nat} {r : List Wd} (h : op ∈ opsAt l) : Stop (l + 1) ((kindOf op, tl op, c) :: r) := by
  unfold Stop
  rw [List.head?_cons]
  cases e : isNx (stops (l + 1)) (some (kindOf op, tl op, c)) with
  | false => rfl
  | true =>
    simp only [isNx, Bool.and_eq_true, decide_eq_true_eq, ofL_tl] at e
    exact absurd e.2 (ops_stop l (opsAt_lt h) op h).2
theorem Rst.stop {n : Int} {l δ : Nat} {v0 v : DV} {rs rest : List Wd} (h : Rst n l δ v0 rs v) (hs : Stop l rest) (hl : l < 7) : Stop (l + 1) (rs ++ rest) := by
  cases h with
  | nil => exact hs.up hl
  | cons h1 h2 h3 => exact stop_op h1
theorem Stop.nil {l : Nat} : Stop l [] := rfl
def rowF (ws : List DV) (at' dp : Int) : List (Str × DV) := [("words", .lst ws), ("at", .int at'), ("deep", .int dp)]
def RwC (C : Addr) (n : Int) (pre toks : List Wd) (d : Nat) : Cell := .ins C (rowF ((pre ++ toks).map (encW n)) (pre.length : Int) (d : Int))
end W1
set_option Elab.async false
set_option linter.all false
set_option maxRecDepth 100000
namespace W1
open PySem PySem.Spec PyProof.Rows L2 TL DL
theorem nx_ow {xs : List Str} {s : Str} {c : Nat} : isNx xs (some (ow s c)) = decide (s ∈ xs) := by
  simp [isNx, ow, ofL_tl]
theorem nx_nm {xs : List Str} {s : Str} {c : Nat} : isNx xs (some (nmW s c)) = false := by
  have h1 : ((nmW s c).1 = "sign") = False := eq_false (by show ¬ ((("name" : Str)) = "sign"); decide)
  have h2 : ((nmW s c).1 = "own") = False := eq_false (by show ¬ ((("name" : Str)) = "own"); decide)
  simp [isNx, h1, h2]
end W1
set_option Elab.async false
set_option linter.all false
set_option maxRecDepth 100000
namespace W1
open PySem PySem.Spec PyProof.Rows L2 TL DL
def NG (last t : List Nat) : Prop := ∀ x y, last.getLast? = some x → t.head? = some y → ¬ ((x ∈ letters ∧ y ∈ letters) ∨ (x ∈ figs ∧ y ∈ figs) ∨ (last = [60] ∧ (y = 61 ∨ y = 62)))
def Ext (row : List Nat) (ws : List Wd) (last : List Nat) : Prop := ∀ t ws', NG last t → Scan t row.length ws' → Scan (row ++ t) 0 (ws ++ ws')
def WordOk (k : Str) (w : List Nat) : Prop := k ≠ "" ∧ (∃ c r, w = c :: r ∧ c ≠ 35 ∧ c ≠ 32) ∧ w.length ≤ 6 ∧ 10 ∉ w ∧ ∀ t, NG w t → wordL (w ++ t) = (k, w)
theorem scan_blanks {t : List Nat} {ws : List Wd} : ∀ (g e : Nat), Scan t (e + g) ws → Scan (List.replicate g 32 ++ t) e ws
  | 0, e, h => h
  | g + 1, e, h => .blank (scan_blanks g (e + 1) (by rw [show e + 1 + g = e + (g + 1) by omega]; exact h))
theorem ext_word {row : List Nat} {ws : List Wd} {last : List Nat} {k : Str} {w : List Nat} {g : Nat} (h : Ext row ws last) (hw : WordOk k w) (hg : g = 0 → NG last w) :
    Ext (row ++ List.replicate g 32 ++ w) (ws ++ [(k, w, row.length + g)]) w := by
  intro t ws' ht hs
  obtain ⟨hk, ⟨c, r, rfl, h1, h2⟩, _, _, hw'⟩ := hw
  have e := hw' t ht
  have s1 : Scan ((c :: r) ++ t) (row.length + g) ((k, c :: r, row.length + g) :: ws') := by
    refine Scan.word h1 h2 e hk ?_
    show Scan (((c :: r) ++ t).drop (c :: r).length) _ _
    rw [List.drop_left]
    rw [List.length_append, List.length_append, List.length_replicate] at hs
    exact hs
  have s2 := scan_blanks g row.length s1
  have := h (List.replicate g 32 ++ ((c :: r) ++ t)) _ ?_ s2
  · rw [List.append_assoc, List.append_assoc, List.append_assoc]; exact this
  · intro x y hx hy
    cases g with
    | zero =>
      have := hg rfl x c hx rfl
      cases hy; exact this
    | succ g =>
      cases hy
      rintro (⟨_, h⟩ | ⟨_, h⟩ | ⟨_, h | h⟩)
      · revert h; decide
      · revert h; decide
      · cases h
      · cases h
theorem ext_end {row t : List Nat} {ws : List Wd} {last : List Nat} (h : Ext row ws last) (ht : t = [] ∨ ∃ r, t = 32 :: r) (hs : ∀ e, Scan t e []) : Scan (row ++ t) 0 ws := by
  have := h t [] ?_ (hs _)
  · rw [List.append_nil] at this; exact this
  · intro x y hx hy
    rcases ht with rfl | ⟨r, rfl⟩
    · cases hy
    · cases hy
      rintro (⟨_, h⟩ | ⟨_, h⟩ | ⟨_, h | h⟩)
      · revert h; decide
      · revert h; decide
      · cases h
      · cases h
end W1
namespace W1
open PySem PySem.Spec PyProof.Rows L2 TL DL
theorem scanRows_app : ∀ {rs rs2 : List Str} {wss wss2 : List (List Wd)}, ScanRows rs wss → ScanRows rs2 wss2 → ScanRows (rs ++ rs2) (wss ++ wss2)
  | [], _, [], _, _, h2 => h2
  | r :: rs, _, ws :: wss, _, h, h2 => ⟨h.1, scanRows_app h.2 h2⟩
  | [], _, _ :: _, _, h, _ => h.elim
  | _ :: _, _, [], _, h, _ => h.elim
theorem encAll_app : ∀ {wss wss2 : List (List Wd)} {n : Nat}, encAll n (wss ++ wss2) = encAll n wss ++ encAll (n + wss.length) wss2
  | [], _, _ => rfl
  | ws :: wss, wss2, n => by
    simp only [List.cons_append, encAll, List.length_cons]
    rw [encAll_app, List.append_assoc, show n + 1 + wss.length = n + (wss.length + 1) by omega]
theorem encAll_empty : ∀ {wss : List (List Wd)} {n : Nat}, (∀ ws ∈ wss, ws = []) → encAll n wss = []
  | [], _, _ => rfl
  | ws :: wss, n, h => by
    have := h ws List.mem_cons_self
    subst this
    simp only [encAll, List.map_nil, List.nil_append]
    exact encAll_empty fun ws hw => h ws (List.mem_cons_of_mem _ hw)
theorem spare_scan {t : Str} (h : Spare t) : ∀ e, Scan (tl t) e [] := by
  rcases h with rfl | rfl | rfl
  · exact fun e => .nil e
  · exact fun e => .blank (.blank (.blank (.nil _)))
  · exact fun e => .rem _ _
theorem tail_scan {t : Str} (h : Tail t) : (tl t = [] ∨ ∃ r, tl t = 32 :: r) ∧ ∀ e, Scan (tl t) e [] := by
  rcases h with rfl | rfl | rfl
  · exact ⟨.inl rfl, fun e => .nil e⟩
  · exact ⟨.inr ⟨_, rfl⟩, fun e => .blank (.nil _)⟩
  · exact ⟨.inr ⟨_, rfl⟩, fun e => .blank (.blank (.rem _ _))⟩
theorem small_rows {t : Str} : (Tail t ∨ Spare t) → (tl t).length ≤ 8 ∧ 10 ∉ tl t := by
  rintro ((rfl | rfl | rfl) | (rfl | rfl | rfl)) <;> decide +kernel
structure RowsOk (n : Nat) (rows : List Str) (due : List DV) (wss : List (List Wd)) : Prop where
  sc : ScanRows rows wss
  du : due = encAll 0 wss
  len : rows.length ≤ 2 * n
  row : ∀ r ∈ rows, (tl r).length ≤ 200 ∧ 10 ∉ tl r
  cnt : due.length ≤ 20 * n
structure RowOk (k : Nat) (n : Nat) (row last : Str) (more : List DV) (ws : List Wd) : Prop where
  ex : Ext (tl row) ws (tl last)
  du : more = ws.map (encW ((n : Int) + 1))
  len : (tl row).length ≤ 10 * k
  cnt : more.length ≤ k
  nl : 10 ∉ tl row
theorem RowsOk.next {n k : Nat} {rows : List Str} {due more : List DV} {wss : List (List Wd)} {row last t : Str} {ws : List Wd} {sp : List Str} (h : RowsOk n rows due wss) (h2 : RowOk k rows.length row last more ws) (hk : k ≤ 11)
    (ht : Tail t) (hsp : ∀ r ∈ sp, Spare r) (hl : sp.length ≤ 1) : RowsOk (n + 1) (rows ++ [ofL (tl row ++ tl t)] ++ sp) (due ++ more) (wss ++ [ws] ++ sp.map fun _ => []) := by
  have hsp2 : ∀ {sp : List Str}, (∀ r ∈ sp, Spare r) → ScanRows sp (sp.map fun _ => []) := by
    intro sp
    induction sp with
    | nil => intro _; exact trivial
    | cons r sp ih => exact fun h => ⟨spare_scan (h r List.mem_cons_self) 0, ih fun r hr => h r (List.mem_cons_of_mem _ hr)⟩
  have := h.len
  have := h.cnt
  have := h2.cnt
  refine ⟨scanRows_app (scanRows_app h.sc ⟨ext_end h2.ex (tail_scan ht).1 (tail_scan ht).2, trivial⟩) (hsp2 hsp), ?_, by simp; omega, fun r hr => ?_, by rw [List.length_append]; omega⟩
  · rw [encAll_app, encAll_app, encAll_empty (wss := sp.map _) (by simp), List.append_nil, ← h.du, h2.du, scanRows_len h.sc]
    simp [encAll]
  · simp only [List.mem_append, List.mem_singleton] at hr
    rcases hr with (hr | rfl) | hr
    · exact h.row r hr
    · have := small_rows (.inl ht)
      have := h2.len
      rw [tl_ofL, List.length_append]
      exact ⟨by omega, fun q => (List.mem_append.mp q).elim h2.nl (small_rows (.inl ht)).2⟩
    · have := small_rows (.inr (hsp r hr))
      exact ⟨by omega, this.2⟩
theorem RowOk.next {n k : Nat} {row last word : Str} {more : List DV} {ws : List Wd} {kd : Str} {g : Nat} (h : RowOk k n row last more ws) (hw : WordOk kd (tl word)) (hg : g ≤ 3) (hgl : g = 0 → NG (tl last) (tl word)) :
    RowOk (k + 1) n (ofL (tl row ++ List.replicate g 32 ++ tl word)) word (more ++ [.tup [.str kd, .str word, .tup [.int ((n : Int) + 1), .int ((tl row).length + g + 1)]]]) (ws ++ [(kd, tl word, (tl row).length + g)]) := by
  have := h.len
  have := h.cnt
  have hl := hw.2.2.1
  refine ⟨ext_word h.ex hw hgl, ?_, ?_, by simp; omega, ?_⟩
  · rw [List.map_append, ← h.du]
    simp only [List.map_cons, List.map_nil, encW, ofL_tl]
    simp
  · rw [tl_ofL, List.length_append, List.length_append, List.length_replicate]; omega
  · rw [tl_ofL]
    intro q
    rcases List.mem_append.mp q with q | q
    · rcases List.mem_append.mp q with q | q
      · exact h.nl q
      · have := List.eq_of_mem_replicate q; omega
    · exact hw.2.2.2.1 q
theorem ng_of {last word : Str} (h : ¬ Glues last word) : NG (tl last) (tl word) := by
  intro x y hx hy q
  refine h ⟨x, y, hx, hy, ?_⟩
  rcases q with q | q | ⟨q1, q2⟩
  · exact .inl q
  · exact .inr (.inl q)
  · refine .inr (.inr ⟨ext_tl q1, ?_⟩)
    rcases q2 with rfl | rfl <;> decide
end W1
set_option Elab.async false
set_option linter.all false
set_option maxRecDepth 100000
namespace DL
open PySem PySem.Spec PyProof.Rows L2 TL
def dStrip : DV → List DV → Own → DVK → Prop
  | .str a, [.str b], O, Q => a.length ≤ sizeLine ∧ Q (.str (Txt.stripChars a b)) O
  | _, _, _, _ => False
theorem dStrip_e1 {a b : Str} {O : Own} {Q : DVK} : dStrip (.str a) [.str b] O Q = (a.length ≤ sizeLine ∧ Q (.str (Txt.stripChars a b)) O) := rfl
end DL
namespace DL
open PySem PySem.Spec PyProof.Rows L2 TL
def dEqL (neg : Bool) (x y : DV) (O : Own) (Q : DVK) : Prop := lstQ O x fun xs => dEqP neg (.lst xs) y O Q
theorem dEqL_ok {X : Cx} {f : Value → Value → Sem Value} (neg : Bool) (h2 : OpR X f (if neg then rNeD X.K else rEqD X.K)) : OpD X f (dEqL neg) := by
  refine ⟨fun g => OpR_imp h2 ?_⟩
  rintro x y H VQ ⟨F, O, dx, dy, Q, rs, rx, ry, h, fin⟩
  obtain ⟨xs, e, h⟩ := lstQ_ex h
  obtain ⟨a, vs, rfl, h1, r1⟩ := lstOf_at rs rx e
  obtain ⟨p, e1, h⟩ := onSome_ex h
  obtain ⟨q, e2, h⟩ := onSome_ex h
  obtain ⟨s1, s2, h⟩ := h
  have d1 : Dp X.K H (.ref a) p := by
    unfold toPy at e1
    split at e1
    · rename_i ps e3; cases e1; exact .lst (SqL.of h1) (dps_of rs r1 e3)
    · cases e1
  have q' := fin _ _ h _ _ F (.refl rs) (.bl _)
  cases neg
  · exact ⟨_, _, d1, dp_of rs ry e2, s1, s2, by simpa [Bool.false_eq_true] using q'⟩
  · exact ⟨_, _, d1, dp_of rs ry e2, s1, s2, by simpa using q'⟩
theorem od_neL {X : Cx} (hu : X.A.units + 64 < cLine) : OpD X (compareOp .NotEq) (dEqL true) := dEqL_ok true (op_neD hu)
end DL
set_option Elab.async false
set_option linter.all false
set_option maxRecDepth 100000
namespace W1
open PySem PySem.Spec PyProof.Rows L2 TL DL
def NMW (m : Str) : Prop := WordOk "name" (tl m)
def NM0 (f : Str) : Prop := f = "" ∨ NMW f
def Atom : Ex → Prop
  | .num n => n < 1000000
  | .truth _ => True
  | .name f m => NM0 f ∧ NMW m
  | _ => False
def WX : Nat → Ex → Prop
  | 0, e => Atom e
  | d + 1, .num n => n < 1000000
  | d + 1, .truth _ => True
  | d + 1, .name f m => NM0 f ∧ NMW m
  | d + 1, .call f m as => NM0 f ∧ NMW m ∧ as.length ≤ 2 ∧ ∀ a ∈ as, Atom a
  | d + 1, .un _ a => WX d a
  | d + 1, .bin op a b => op ∈ binOps ∧ WX d a ∧ WX d b
def TT : Nat → Nat
  | 0 => 5
  | d + 1 => 2 * TT d + 8
theorem Pure.mono {n m : Nat} {v : DV} (h : Pure n v) (hm : n ≤ m) : Pure m v := by
  induction h generalizing m with
  | non => exact .non
  | bl b => exact .bl b
  | int i => exact .int i
  | str x => exact .str x
  | tup h1 h2 ih =>
    obtain ⟨k, rfl⟩ : ∃ k, m = k + 1 := ⟨m - 1, by omega⟩
    exact .tup (fun x hx => ih x hx (by omega)) h2
  | lst h1 h2 ih =>
    obtain ⟨k, rfl⟩ : ∃ k, m = k + 1 := ⟨m - 1, by omega⟩
    exact .lst (fun x hx => ih x hx (by omega)) h2
structure RW (row last : Str) (ws : List Wd) : Prop where
  ex : Ext (tl row) ws (tl last)
  len : (tl row).length ≤ 9 * ws.length
  ll : (tl last).length ≤ 6
  nl : 10 ∉ tl row
theorem RW.next {row last word kd : Str} {ws : List Wd} {g : Nat} (h : RW row last ws) (hw : WordOk kd (tl word)) (hg : g ≤ 3) (hgl : Glues last word → 1 ≤ g) :
    RW (ofL (tl row ++ List.replicate g 32 ++ tl word)) word (ws ++ [(kd, tl word, (tl row).length + g)]) := by
  have := h.len
  have hl := hw.2.2.1
  refine ⟨?_, ?_, hl, ?_⟩
  · rw [tl_ofL]
    refine ext_word h.ex hw fun q => ng_of fun z => ?_
    have := hgl z
    omega
  · rw [tl_ofL, List.length_append, List.length_append, List.length_replicate, List.length_append, List.length_singleton]; omega
  · rw [tl_ofL]
    intro q
    rcases List.mem_append.mp q with q | q
    · rcases List.mem_append.mp q with q | q
      · exact h.nl q
      · have := List.eq_of_mem_replicate q; omega
    · exact hw.2.2.2.1 q
def WK2 (rows : List DV) (row last : Str) : List (Key × DV) := [(.inr "rows", .lst rows), (.inr "row", .str row), (.inr "last", .str last)]
def WC (rows : List DV) (row last : Str) : Cell := .dK (WK2 rows row last)
def allE : Nat → List (List Wd) → List (Nat × List Wd)
  | _, [] => []
  | k, ws :: r => (k, ws) :: allE (k + 1) r
def nonE (wss : List (List Wd)) : List (Nat × List Wd) := (allE 0 wss).filter fun p => !p.2.isEmpty
inductive Out where
  | val (v : DV) | flt (p : DV)
inductive TRo : List (Nat × List Wd) → Out → Prop
  | none : TRo [] (.flt (.tup [.int 1, .int 1]))
  | one {k : Nat} {ws : List Wd} {v : DV} {δ : Nat} : Wr ((k : Int) + 1) 0 δ ws v → δ < 8 → ws.length ≤ 60 → TRo [(k, ws)] (.val v)
  | two {k k2 : Nat} {ws r2 : List Wd} {t : Wd} {v : DV} {δ : Nat} {r : List (Nat × List Wd)} : Wr ((k : Int) + 1) 0 δ ws v → δ < 8 → ws.length ≤ 60 → TRo ((k, ws) :: (k2, t :: r2) :: r) (.flt (plW ((k2 : Int) + 1) t))
end W1
namespace W1
open PySem PySem.Spec PyProof.Rows L2 TL DL
structure CtxE2 (kvs : List (Key × DV)) (ns : List Nm) (ds : List Df) (sg : List Str) : Prop where
  n : dget kvs (Sum.inr (Str.ofString "names")) = some (.lst (ns.map encN))
  d : dget kvs (Sum.inr (Str.ofString "defs")) = some (.lst (ds.map encDf))
  s : dget kvs (Sum.inr (Str.ofString "signs")) = some (.lst (sg.map DV.str))
  on : ∀ x ∈ ns, NM0 x.2.1 ∧ NMW x.2.2 ∧ PureS 1 (encN x)
  od : ∀ x ∈ ds, NM0 x.1 ∧ NMW x.2.1 ∧ x.2.2.1.length ≤ 2 ∧ (∀ k ∈ x.2.2.1, KN k) ∧ PureS 2 (encDf x)
  ln : ns.length ≤ 1000
  ld : ds.length ≤ 1000
  os : (∀ s ∈ sg, s ∈ binOps) ∧ 0 < sg.length ∧ sg.length ≤ 5
end W1
namespace W1
open PySem PySem.Spec PyProof.Rows L2 TL DL
def LS (a w : Addr) (rows : List DV) (ws : List Wd) (O : Own) : Prop := ∃ c row last, O a = some c ∧ Dice c ∧ O w = some (WC rows row last) ∧ RW row last ws
theorem LS.dice {a w : Addr} {rows : List DV} {ws : List Wd} {O : Own} {c : Cell} (h : LS a w rows ws O) (haw : a ≠ w) (hc : Dice c) : LS a w rows ws (oset O a c) := by
  obtain ⟨_, row, last, h1, h2, h3, h4⟩ := h
  exact ⟨c, row, last, oset_same, hc, by rw [oset_ne (Ne.symm haw)]; exact h3, h4⟩
theorem LS.fr {a w p : Addr} {rows : List DV} {ws : List Wd} {O : Own} {c : Cell} (h : LS a w rows ws O) (h1 : a ≠ p) (h2 : w ≠ p) : LS a w rows ws (oset O p c) := by
  obtain ⟨c', row, last, g1, g2, g3, g4⟩ := h
  exact ⟨c', row, last, by rw [oset_ne h1]; exact g1, g2, by rw [oset_ne h2]; exact g3, g4⟩
def PV (n : Nat) (v : DV) : Prop := Pure n v ∧ PureS n v
theorem PureS.up {n m : Nat} {v : DV} (h : PureS n v) (hm : n ≤ m) : PureS m v := by
  induction h generalizing m with
  | non => exact .non
  | bl b => exact .bl b
  | int i => exact .int i
  | str x hx => exact .str x hx
  | tup h1 ih =>
    obtain ⟨k, rfl⟩ : ∃ k, m = k + 1 := ⟨m - 1, by omega⟩
    exact .tup (fun x hx => ih x hx (by omega))
  | lst h1 ih =>
    obtain ⟨k, rfl⟩ : ∃ k, m = k + 1 := ⟨m - 1, by omega⟩
    exact .lst (fun x hx => ih x hx (by omega))
theorem PV.up {n m : Nat} {v : DV} (h : PV n v) (hm : n ≤ m) : PV m v := ⟨h.1.mono hm, h.2.up hm⟩
theorem PV.tup {n : Nat} {xs : List DV} (h : ∀ x ∈ xs, PV n x) (hl : xs.length ≤ 1000000) : PV (n + 1) (.tup xs) := ⟨.tup (fun x hx => (h x hx).1) hl, .tup fun x hx => (h x hx).2⟩
theorem PV.str {n : Nat} {s : Str} (h : Cps s) : PV n (.str s) := ⟨.str _, .str _ h⟩
theorem PV.int {n : Nat} {i : Int} : PV n (.int i) := ⟨.int _, .int _⟩
theorem PV.bl {n : Nat} {i : Bool} : PV n (.bl i) := ⟨.bl _, .bl _⟩
theorem PV.pl {n : Nat} {i : Int} {c : Nat} : PV (n + 1) (plC i c) := .tup (fun x hx => by
  simp only [List.mem_cons, List.not_mem_nil, or_false] at hx
  rcases hx with rfl | rfl <;> exact .int) (by simp)
def levE : Ex → Nat
  | .un neg _ => if neg then 6 else 2
  | .bin op _ _ => opLev op - 1
  | _ => 7
theorem LS.ne {a w p : Addr} {rows : List DV} {ws : List Wd} {O : Own} (h : LS a w rows ws O) (hp : O p = none) : a ≠ p ∧ w ≠ p := by
  obtain ⟨c, row, last, h1, h2, h3, h4⟩ := h
  exact ⟨ne_of h1 hp, ne_of h3 hp⟩
end W1
namespace W1
open PySem PySem.Spec PyProof.Rows L2 TL DL
theorem Wr.ne {n : Int} {l δ : Nat} {ts : List Wd} {v : DV} (h : Wr n l δ ts v) : ts ≠ [] := by
  obtain ⟨t, r, rfl, _⟩ := h.hd
  simp
end W1
set_option Elab.async false
set_option linter.all false
set_option maxRecDepth 100000
namespace W1
open PySem PySem.Spec PyProof.Rows L2 TL DL
abbrev NW := Nat × List Wd
inductive One (k : Nat) : List Wd → DV → Prop
  | set {n : Str} {c c2 δ : Nat} {ws : List Wd} {v : DV} : Wr ((k : Int) + 1) 0 δ ws v → δ < 8 → ws.length ≤ 56 → One k (nmW n c :: sg "=" c2 :: ws) (.tup [.str "set", plC ((k : Int) + 1) c, .str n, v])
  | lett {n : Str} {c0 c c2 δ : Nat} {ws : List Wd} {v : DV} : Wr ((k : Int) + 1) 0 δ ws v → δ < 8 → ws.length ≤ 56 → One k (ow "let" c0 :: nmW n c :: sg "=" c2 :: ws) (.tup [.str "let", plC ((k : Int) + 1) c, .str n, v])
  | give0 {c : Nat} : One k [ow "give" c] (.tup [.str "give", plC ((k : Int) + 1) c, .non])
  | one {w : Str} {c δ : Nat} {ws : List Wd} {v : DV} : (w = "give" ∨ w = "say") → Wr ((k : Int) + 1) 0 δ ws v → δ < 8 → ws.length ≤ 56 → One k (ow w c :: ws) (.tup [.str w, plC ((k : Int) + 1) c, v])
  | doc {c c0 c1 c2 δ : Nat} {ts : List Wd} {f m : Str} {ps : List Pt} : DotW ts f m c0 → ps.length ≤ 1000 → (∀ p ∈ ps, Wr ((k : Int) + 1) 0 δ p.2.1 p.2.2) → δ < 7 → (partsT ps).length ≤ 50 →
      One k (ow "do" c :: (ts ++ (sg "(" c1 :: partsT ps ++ [sg ")" c2]))) (.tup [.str "do", plC ((k : Int) + 1) c, .tup [.str "call", plC ((k : Int) + 1) c0, .str f, .str m, .tup (ps.map fun p => p.2.2)]])
mutual
/-- a row, and those within it -/
inductive Deed : Nat → Nat → List Wd → List NW → DV → Prop
  | one {d k : Nat} {ws : List Wd} {v : DV} : One k ws v → Deed d k ws [] v
  | br {d k c : Nat} {w : Str} {ws : List Wd} {af : List NW} {v : DV} : Br d k w c ws af v → Deed d k (ow w c :: ws) af v
inductive Br : Nat → Nat → Str → Nat → List Wd → List NW → DV → Prop
  | whl {d k c δ k2 c2 : Nat} {ws : List Wd} {t : DV} {bs : List NW} {bv : List DV} : Wr ((k : Int) + 1) 0 δ ws t → δ < 8 → ws.length ≤ 56 → Blk d bs bv →
      Br (d + 1) k "while" c ws (bs ++ [(k2, [ow "end" c2])]) (.tup [.str "while", plC ((k : Int) + 1) c, t, .tup bv])
  | if0 {d k c δ k2 c2 : Nat} {ws : List Wd} {t : DV} {bs : List NW} {bv : List DV} : Wr ((k : Int) + 1) 0 δ ws t → δ < 8 → ws.length ≤ 56 → Blk d bs bv →
      Br (d + 1) k "if" c ws (bs ++ [(k2, [ow "end" c2])]) (.tup [.str "if", plC ((k : Int) + 1) c, t, .tup bv, .tup []])
  | if1 {d k c δ k2 c2 k3 c3 : Nat} {ws : List Wd} {t : DV} {bs es : List NW} {bv ev : List DV} : Wr ((k : Int) + 1) 0 δ ws t → δ < 8 → ws.length ≤ 56 → Blk d bs bv → Blk d es ev →
      Br (d + 1) k "if" c ws ((bs ++ [(k2, [ow "else" c2])]) ++ (es ++ [(k3, [ow "end" c3])])) (.tup [.str "if", plC ((k : Int) + 1) c, t, .tup bv, .tup ev])
inductive Blk : Nat → List NW → List DV → Prop
  | nil {d : Nat} : Blk d [] []
  | cons {d k : Nat} {ws : List Wd} {af rs : List NW} {v : DV} {vs : List DV} : Deed d k ws af v → Blk d rs vs → Blk d ((k, ws) :: (af ++ rs)) (v :: vs)
end
theorem Br.wd {d k c : Nat} {w : Str} {ws : List Wd} {af : List NW} {v : DV} (h : Br d k w c ws af v) : (w = "if" ∨ w = "while") ∧ 0 < d := by
  cases h with
  | whl => exact ⟨.inr rfl, Nat.succ_pos _⟩
  | if0 => exact ⟨.inl rfl, Nat.succ_pos _⟩
  | if1 => exact ⟨.inl rfl, Nat.succ_pos _⟩
inductive Na (n : Int) : Bool → Nat → List Wd → DV → Prop
  | nam {δ c : Nat} {ts : List Wd} {f m : Str} : DotW ts f m c → Na n false δ ts (.tup [.str "name", plC n c, .str f, .str m])
  | cal {δ c c1 c2 : Nat} {ts : List Wd} {f m : Str} {ps : List Pt} : DotW ts f m c → ps.length ≤ 1000 → (∀ p ∈ ps, Wr n 0 δ p.2.1 p.2.2) → Na n true (δ + 1) (ts ++ (sg "(" c1 :: partsT ps ++ [sg ")" c2])) (.tup [.str "call", plC n c, .str f, .str m, .tup (ps.map fun p => p.2.2)])
theorem Na.mono {n : Int} {b : Bool} {δ δ' : Nat} {ts : List Wd} {v : DV} (h : Na n b δ ts v) (hd : δ ≤ δ') : Na n b δ' ts v := by
  cases h with
  | nam h => exact .nam h
  | cal h1 h2 h3 =>
    obtain ⟨k, rfl⟩ : ∃ k, δ' = k + 1 := ⟨δ' - 1, by omega⟩
    exact .cal h1 h2 fun p hp => (h3 p hp).mono (by omega)
theorem One.hd {k : Nat} {ws : List Wd} {v : DV} (h : One k ws v) : ∃ t r, ws = t :: r ∧ isNx ["end", "else"] (some t) = false := by
  cases h with
  | set => exact ⟨_, _, rfl, nx_nm⟩
  | lett => exact ⟨_, _, rfl, by rw [nx_ow]; rfl⟩
  | give0 => exact ⟨_, _, rfl, by rw [nx_ow]; rfl⟩
  | one hw => exact ⟨_, _, rfl, by rw [nx_ow]; rcases hw with rfl | rfl <;> rfl⟩
  | doc => exact ⟨_, _, rfl, by rw [nx_ow]; rfl⟩
theorem Deed.hd {d k : Nat} {ws : List Wd} {af : List NW} {v : DV} (h : Deed d k ws af v) : ∃ t r, ws = t :: r ∧ isNx ["end", "else"] (some t) = false := by
  cases h with
  | one h => exact h.hd
  | br h => exact ⟨_, _, rfl, by rw [nx_ow]; rcases h.wd.1 with rfl | rfl <;> rfl⟩
mutual
theorem Deed.mono {d k : Nat} {ws : List Wd} {af : List NW} {v : DV} : Deed d k ws af v → Deed (d + 1) k ws af v
  | .one h => .one h
  | .br h => .br h.mono
theorem Br.mono {d k c : Nat} {w : Str} {ws : List Wd} {af : List NW} {v : DV} : Br d k w c ws af v → Br (d + 1) k w c ws af v
  | .whl h1 h2 h3 h4 => .whl h1 h2 h3 h4.mono
  | .if0 h1 h2 h3 h4 => .if0 h1 h2 h3 h4.mono
  | .if1 h1 h2 h3 h4 h5 => .if1 h1 h2 h3 h4.mono h5.mono
theorem Blk.mono {d : Nat} {rs : List NW} {vs : List DV} : Blk d rs vs → Blk (d + 1) rs vs
  | .nil => .nil
  | .cons h1 h2 => .cons h1.mono h2.mono
end
theorem Blk.len {d : Nat} : ∀ {rs : List NW} {vs : List DV}, Blk d rs vs → vs.length ≤ rs.length
  | _, _, .nil => Nat.le_refl _
  | _, _, .cons h1 h2 => by
    have := h2.len
    simp only [List.length_cons, List.length_append]; omega
abbrev Par := Nat × Str × Nat × Str × Nat
def parV (n : Int) (p : Par) : DV := .tup [plC n p.2.2.1, .str p.2.1, .str p.2.2.2.1]
def parW (p : Par) : List Wd := [nmW p.2.1 p.2.2.1, ow p.2.2.2.1 p.2.2.2.2]
def ptail (ps : List Par) : List Wd := ps.flatMap fun p => sg "," p.1 :: parW p
def parsW : List Par → List Wd
  | [] => []
  | p :: ps => parW p ++ ptail ps
def outW (o : Bool) (c : Nat) : List Wd := if o then [ow "out" c] else []
def kindW (kd : Str) (c : Nat) : List Wd := if kd = "" then [] else [ow kd c]
inductive Told : List NW → DV → Prop
  | val {k c0 c1 c c2 δ : Nat} {o : Bool} {w n : Str} {ws : List Wd} {v : DV} : (w = "const" ∨ w = "keep") → Wr ((k : Int) + 1) 0 δ ws v → δ < 8 → ws.length ≤ 55 →
      Told [(k, outW o c0 ++ (ow w c1 :: nmW n c :: sg "=" c2 :: ws))] (.tup [.str w, plC ((k : Int) + 1) c, .bl o, .str n, v])
  | dfn {k c0 c1 c c2 c3 c4 k2 c5 d : Nat} {o : Bool} {n kd : Str} {ps : List Par} {bs : List NW} {bv : List DV} : ps.length ≤ 6 → (∀ p ∈ ps, p.2.2.2.1 = "num" ∨ p.2.2.2.1 = "yes") → (kd = "" ∨ kd = "num" ∨ kd = "yes") → Blk d bs bv → d ≤ 6 →
      Told ((k, outW o c0 ++ (ow "def" c1 :: nmW n c :: sg "(" c2 :: (parsW ps ++ (sg ")" c3 :: kindW kd c4)))) :: (bs ++ [(k2, [ow "end" c5])]))
        (.tup [.str "def", plC ((k : Int) + 1) c, .bl o, .str n, .tup (ps.map (parV ((k : Int) + 1))), .str kd, .tup bv, plC ((k2 : Int) + 1) c5])
inductive Tolds : List NW → List DV → Prop
  | nil : Tolds [] []
  | cons {a b : List NW} {v : DV} {vs : List DV} : Told a v → Tolds b vs → Tolds (a ++ b) (v :: vs)
abbrev Us := Nat × Str × Nat
def usV (n : Int) (p : Us) : DV := .tup [plC n p.2.2, .str p.2.1]
def usT (ps : List Us) : List Wd := ps.flatMap fun p => [sg "," p.1, nmW p.2.1 p.2.2]
def usW (c0 : Nat) (p : Us) (ps : List Us) : List Wd := ow "use" c0 :: nmW p.2.1 p.2.2 :: usT ps
inductive Uses : List NW → List DV → Prop
  | nil : Uses [] []
  | cons {k c0 : Nat} {p : Us} {ps : List Us} {b : List NW} {vs : List DV} : ps.length ≤ 20 → Uses b vs → Uses ((k, usW c0 p ps) :: b) ((p :: ps).map (usV ((k : Int) + 1)) ++ vs)
theorem outW_ne {o : Bool} {c0 : Nat} {t : Wd} {r : List Wd} {xs : List Str} (h0 : ("out" : Str) ∉ xs) (ht : isNx xs (some t) = false) : isNx xs (outW o c0 ++ (t :: r)).head? = false := by
  cases o
  · exact ht
  · show isNx xs (some (ow "out" c0)) = false
    rw [nx_ow]; exact decide_eq_false h0
theorem Told.hd {a : List NW} {v : DV} (h : Told a v) : ∃ k ws r, a = (k, ws) :: r ∧ isNx ["use"] ws.head? = false ∧ ws ≠ [] := by
  cases h with
  | @val k c0 c1 c c2 δ o w n ws v hw =>
    refine ⟨_, _, _, rfl, outW_ne (by decide) ?_, by simp⟩
    rw [nx_ow]; rcases hw with rfl | rfl <;> rfl
  | dfn => exact ⟨_, _, _, rfl, outW_ne (by decide) (by rw [nx_ow]; rfl), by simp⟩
theorem Tolds.hd : ∀ {a : List NW} {vs : List DV}, Tolds a vs → a = [] ∨ ∃ k ws r, a = (k, ws) :: r ∧ isNx ["use"] ws.head? = false
  | _, _, .nil => .inl rfl
  | _, _, .cons h1 h2 => by
    obtain ⟨k, ws, r, rfl, h, _⟩ := h1.hd
    exact .inr ⟨k, ws, _, rfl, h⟩
def rdF (many : Int) (rows : List DV) (at' b : Int) : List (Str × DV) := [("many", .int many), ("rows", .lst rows), ("at", .int at'), ("blocks", .int b)]
def RdC (C : Addr) (many : Int) (done : List Addr) (ps : List (Addr × NW)) (b : Nat) : Cell := .ins C (rdF many ((done ++ ps.map (·.1)).map DV.ref) (done.length : Int) (b : Int))
structure RdS (C R rd : Addr) (many : Int) (done : List Addr) (ps : List (Addr × NW)) (b : Nat) (O : Own) : Prop where
  hr : O rd = some (RdC C many done ps b)
  hp : ∀ p ∈ ps, O p.1 = some (RwC R ((p.2.1 : Int) + 1) [] p.2.2 0)
  nd : (rd :: ps.map (·.1)).Nodup
  sm : done.length + ps.length ≤ 2000
section
variable {C R rd x : Addr} {many : Int} {done : List Addr} {ps : List (Addr × NW)} {b b' : Nat} {O O' : Own} {p : Addr × NW} {c : Cell} {as : List Addr}
theorem RdS.next (h : RdS C R rd many done (p :: ps) b O) : RdS C R rd many (done ++ [p.1]) ps b (oset O rd (RdC C many (done ++ [p.1]) ps b)) ∧ oset O rd (RdC C many (done ++ [p.1]) ps b) p.1 = some (RwC R ((p.2.1 : Int) + 1) [] p.2.2 0) ∧ p.1 ∉ rd :: ps.map (·.1) := by
  obtain ⟨h1, h2, h3, h4⟩ := h
  rw [List.map_cons] at h3
  obtain ⟨n1, n2⟩ := List.nodup_cons.mp h3
  obtain ⟨n3, n4⟩ := List.nodup_cons.mp n2
  have e1 : p.1 ≠ rd := fun e => n1 (by simp [e])
  refine ⟨⟨oset_same, fun q hq => ?_, List.nodup_cons.mpr ⟨fun q => n1 (List.mem_cons_of_mem _ q), n4⟩, ?_⟩, ?_, ?_⟩
  · have e2 : q.1 ≠ rd := fun e => n1 (List.mem_cons_of_mem _ (e ▸ List.mem_map_of_mem hq))
    rw [oset_ne e2]; exact h2 q (List.mem_cons_of_mem _ hq)
  · rw [List.length_append, List.length_singleton]; simp only [List.length_cons] at h4; omega
  · rw [oset_ne e1]; exact h2 p List.mem_cons_self
  · intro q
    rcases List.mem_cons.mp q with q | q
    · exact e1 q
    · exact n3 q
theorem RdS.fr (h : RdS C R rd many done ps b O) (f : Fr O O' as) (ha : ∀ x ∈ as, x ∉ rd :: ps.map (·.1)) : RdS C R rd many done ps b O' :=
  ⟨f.at h.hr fun q => ha _ q List.mem_cons_self, fun p hp => f.at (h.hp p hp) fun q => ha _ q (List.mem_cons_of_mem _ (List.mem_map_of_mem hp)), h.nd, h.sm⟩
theorem RdS.set (h : RdS C R rd many done ps b O) (hx : x ∉ rd :: ps.map (·.1)) : RdS C R rd many done ps b (oset O x c) :=
  h.fr (O' := oset O x c) (as := [x]) (Fr.refl.set (.inl (by simp))) fun y hy => by
    simp only [List.mem_singleton] at hy; subst hy; exact hx
theorem RdS.new (h : RdS C R rd many done ps b O) (hx : O x = none) : x ∉ rd :: ps.map (·.1) := by
  intro q
  rcases List.mem_cons.mp q with q | q
  · subst q; rw [h.hr] at hx; cases hx
  · obtain ⟨p, hp, rfl⟩ := List.mem_map.mp q
    rw [h.hp p hp] at hx; cases hx
theorem RdS.blk (h : RdS C R rd many done ps b O) : RdS C R rd many done ps b' (oset O rd (RdC C many done ps b')) := by
  obtain ⟨h1, h2, h3, h4⟩ := h
  refine ⟨oset_same, fun q hq => ?_, h3, h4⟩
  have e2 : q.1 ≠ rd := fun e => (List.nodup_cons.mp h3).1 (e ▸ List.mem_map_of_mem hq)
  rw [oset_ne e2]; exact h2 q hq
end
structure Bx where
  acc : List DV
  dn : List Addr
  p : List (Addr × NW)
  bs : List NW
  vs : List DV
  O : Own
  S : DSt
structure Px where
  pre : List Wd
  qs : List Par
  acc : List DV
  O : Own
structure Ux where
  pre : List Wd
  qs : List Us
  acc : List DV
  O : Own
  S : DSt
end W1
namespace W1
open PySem PySem.Spec PyProof.Rows L2 TL DL
theorem Tolds.len : ∀ {a : List NW} {vs : List DV}, Tolds a vs → vs.length ≤ a.length
  | _, _, .nil => Nat.le_refl _
  | _, _, .cons h1 h2 => by
    obtain ⟨k, ws, r, rfl, _, _⟩ := h1.hd
    have := h2.len
    simp only [List.length_cons, List.length_append]; omega
end W1
set_option Elab.async false
set_option linter.all false
set_option maxRecDepth 100000
namespace W1
open PySem PySem.Spec PyProof.Rows L2 TL DL
def WX5 : Nat → Ex → Prop
  | 0, e => Atom e
  | d + 1, .num n => n < 1000000
  | d + 1, .truth _ => True
  | d + 1, .name f m => NM0 f ∧ NMW m
  | d + 1, .call f m as => NM0 f ∧ NMW m ∧ as.length ≤ 3 ∧ ∀ a ∈ as, Atom a
  | d + 1, .un _ a => WX5 d a
  | d + 1, .bin op a b => op ∈ binOps ∧ WX5 d a ∧ WX5 d b
mutual
def GR : Nat → Rw → Prop
  | 0, _ => False
  | d + 1, .lt _ n e => NMW n ∧ WX5 2 e
  | d + 1, .one w none => w = "give"
  | d + 1, .one w (some e) => ((w = "give" ∨ w = "say") ∧ WX5 2 e) ∨ (w = "do" ∧ WX5 1 e ∧ ∃ f m as, e = .call f m as)
  | d + 1, .iff t a b => WX5 2 t ∧ a.length ≤ 5 ∧ b.length ≤ 5 ∧ GRs d a ∧ GRs d b
  | d + 1, .whl t a => WX5 2 t ∧ a.length ≤ 5 ∧ GRs d a
def GRs : Nat → List Rw → Prop
  | _, [] => True
  | d, r :: rs => GR d r ∧ GRs d rs
end
def GT : Td → Prop
  | .val w _ n e => (w = "const" ∨ w = "keep") ∧ NMW n ∧ WX5 2 e
  | .dfn _ n ps kd rs => NMW n ∧ ps.length ≤ 3 ∧ (∀ p ∈ ps, NMW p.1 ∧ KN p.2) ∧ (kd = "" ∨ kd = "num" ∨ kd = "yes") ∧ GRs 4 rs ∧ rs.length ≤ 5 ∧ cRs rs ≤ 41
def OgF (e : Str × List Str × List Td) : Prop := e.2.1.length ≤ 3 ∧ (∀ u ∈ e.2.1, IsName u) ∧ e.2.2.length ≤ 4 ∧ ∀ t ∈ e.2.2, GT t
structure TxtW (rows : List Str) (wss : List (List Wd)) : Prop where
  sc : ScanRows rows wss
  ok : ∀ r ∈ rows, (tl r).length ≤ 1000 ∧ 10 ∉ tl r
theorem TxtW.len {rows : List Str} {wss : List (List Wd)} (h : TxtW rows wss) : rows.length = wss.length := scanRows_len h.sc
def LT (a w pr : Addr) (wss : List (List Wd)) (ws : List Wd) (O : Own) : Prop := ∃ c rows row last, O a = some c ∧ Dice c ∧ O w = some (WCell pr row last) ∧ O pr = some (.lst (rows.map DV.str)) ∧ RW row last ws ∧ TxtW rows wss ∧ a ≠ pr ∧ w ≠ pr
section
variable {a w pr p : Addr} {wss : List (List Wd)} {ws : List Wd} {O O' : Own} {c : Cell}
theorem LT.ne (h : LT a w pr wss ws O) (hp : O p = none) : a ≠ p ∧ w ≠ p ∧ pr ≠ p := by
  obtain ⟨_, _, _, _, h1, _, h3, h4, _⟩ := h
  exact ⟨ne_of h1 hp, ne_of h3 hp, ne_of h4 hp⟩
theorem LT.fr (h : LT a w pr wss ws O) (h1 : a ≠ p ∧ w ≠ p ∧ pr ≠ p) : LT a w pr wss ws (oset O p c) := by
  obtain ⟨c', rows, row, last, g1, g2, g3, g4, g5, g6, g7, g8⟩ := h
  exact ⟨c', rows, row, last, by rw [oset_ne h1.1]; exact g1, g2, by rw [oset_ne h1.2.1]; exact g3, by rw [oset_ne h1.2.2]; exact g4, g5, g6, g7, g8⟩
theorem LT.dice (h : LT a w pr wss ws O) (haw : a ≠ w) (hc : Dice c) : LT a w pr wss ws (oset O a c) := by
  obtain ⟨_, rows, row, last, g1, g2, g3, g4, g5, g6, g7, g8⟩ := h
  exact ⟨c, rows, row, last, oset_same, hc, by rw [oset_ne (Ne.symm haw)]; exact g3, by rw [oset_ne (Ne.symm g7)]; exact g4, g5, g6, g7, g8⟩
end
def TxO (z : Str) (t : DV) : Prop := ∃ (rs : List Str) (wss : List (List Wd)) (us ts : List NW) (uv tv : List DV), (tl z).length ≤ 10000000 ∧ Txt.split z (Str.ofString "\n") = rs ∧ (∀ r ∈ rs, (tl r).length ≤ 10000) ∧ rs.length ≤ 1000 ∧ ScanRows rs wss ∧ nonE wss = us ++ ts ∧ Uses us uv ∧ Tolds ts tv ∧ uv.length ≤ 100000 ∧ t = .tup [.tup uv, .tup tv] ∧ PV 24 t
structure CtxE3 (kvs : List (Key × DV)) (ns : List Nm) (ds : List Df) (sg : List Str) : Prop where
  n : dget kvs (Sum.inr (Str.ofString "names")) = some (.lst (ns.map encN))
  d : dget kvs (Sum.inr (Str.ofString "defs")) = some (.lst (ds.map encDf))
  s : dget kvs (Sum.inr (Str.ofString "signs")) = some (.lst (sg.map DV.str))
  on : ∀ x ∈ ns, NM0 x.2.1 ∧ NMW x.2.2 ∧ PureS 1 (encN x)
  od : ∀ x ∈ ds, NM0 x.1 ∧ NMW x.2.1 ∧ x.2.2.1.length ≤ 3 ∧ (∀ k ∈ x.2.2.1, KN k) ∧ PureS 2 (encDf x)
  ln : ns.length ≤ 1000
  ld : ds.length ≤ 1000
  os : (∀ s ∈ sg, s ∈ binOps) ∧ 0 < sg.length ∧ sg.length ≤ 5
theorem PV.non {n : Nat} : PV n .non := ⟨.non, .non⟩
end W1
set_option Elab.async false
set_option linter.all false
set_option maxRecDepth 100000
namespace W1
open PySem PySem.Spec PyProof.Rows L2 TL DL
abbrev arith : List Str := ["+", "-", "*", "/", "mod"]
def OpTy0 (op kd k : Str) : Prop := (kd = "num" ∧ k = "num" ∧ op ∈ arith) ∨ (kd = "yes" ∧ ((op ∈ (["or", "and"] : List Str) ∧ k = "yes") ∨ (op ∈ (["=", "<>"] : List Str) ∧ KN k) ∨ (op ∈ (["<", "<="] : List Str) ∧ k = "num")))
abbrev pmS : List Str := ["+", "-"]
def OpTy (ds : List Df) (op kd k : Str) : Prop := (ds = [] → op ∈ arith → op ∈ pmS) ∧ OpTy0 op kd k
mutual
/-- well named, and of a kind -/
def TyE (ns : List Nm) (ds : List Df) : Str → Ex → Prop
  | kd, .num _ => kd = "num"
  | kd, .truth _ => kd = "yes"
  | kd, .name f n => (kd, f, n) ∈ ns
  | kd, .call f n as => ∃ ks, (f, n, ks, kd) ∈ ds ∧ TyL ns ds ks as
  | kd, .un neg a => kd = (if neg then Str.ofString "num" else Str.ofString "yes") ∧ TyE ns ds kd a
  | kd, .bin op a b => ∃ k, OpTy ds op kd k ∧ TyE ns ds k a ∧ TyE ns ds k b
def TyL (ns : List Nm) (ds : List Df) : List Str → List Ex → Prop
  | [], [] => True
  | k :: ks, e :: es => TyE ns ds k e ∧ TyL ns ds ks es
  | _, _ => False
end
theorem TyL.snoc {ns : List Nm} {ds : List Df} {k : Str} {e : Ex} : ∀ {ks : List Str} {es : List Ex}, TyL ns ds ks es → TyE ns ds k e → TyL ns ds (ks ++ [k]) (es ++ [e])
  | [], [], _, h => by simp only [List.nil_append, TyL]; exact ⟨h, trivial⟩
  | _ :: _, _ :: _, h1, h => by
    simp only [TyL, List.cons_append] at h1 ⊢
    exact ⟨h1.1, h1.2.snoc h⟩
  | [], _ :: _, h1, h => by simp [TyL] at h1
  | _ :: _, [], h1, h => by simp [TyL] at h1
theorem TyL.len {ns : List Nm} {ds : List Df} : ∀ {ks : List Str} {es : List Ex}, TyL ns ds ks es → es.length = ks.length
  | [], [], _ => rfl
  | _ :: _, _ :: _, h1 => by
    simp only [TyL] at h1
    simp [TyL.len h1.2]
  | [], _ :: _, h1 => by simp [TyL] at h1
  | _ :: _, [], h1 => by simp [TyL] at h1
abbrev Cx3 := List Nm × List (Str × Str) × List Str
mutual
inductive TyR (ds : List Df) (kd : Str) : Cx3 → Rw → Cx3 → Prop
  | lt {ns : List Nm} {ss : List (Str × Str)} {us : List Str} {k n : Str} {e : Ex} : KN k → n ∉ us → TyE ns ds k e → TyR ds kd (ns, ss, us) (.lt true n e) (ns ++ [((k, Str.ofString "", n) : Nm)], ss ++ [(k, n)], us ++ [n])
  | st {ns : List Nm} {ss : List (Str × Str)} {us : List Str} {k n : Str} {e : Ex} : (k, n) ∈ ss → TyE ns ds k e → TyR ds kd (ns, ss, us) (.lt false n e) (ns, ss, us)
  | gv0 {c : Cx3} : kd = "" → TyR ds kd c (.one "give" none) c
  | gv {c : Cx3} {e : Ex} : KN kd → TyE c.1 ds kd e → TyR ds kd c (.one "give" (some e)) c
  | sy {c : Cx3} {k : Str} {e : Ex} : KN k → TyE c.1 ds k e → TyR ds kd c (.one "say" (some e)) c
  | dc {c : Cx3} {k : Str} {f n : Str} {as : List Ex} : TyE c.1 ds k (.call f n as) → TyR ds kd c (.one "do" (some (.call f n as))) c
  | whl {ns ns' : List Nm} {ss ss' : List (Str × Str)} {us us' : List Str} {t : Ex} {rs : List Rw} : TyE ns ds "yes" t → TyRs ds kd (ns, ss, us) rs (ns', ss', us') → TyR ds kd (ns, ss, us) (.whl t rs) (ns, ss, us')
  | iff {ns ns' ns2 : List Nm} {ss ss' ss2 : List (Str × Str)} {us us' us2 : List Str} {t : Ex} {rs qs : List Rw} : TyE ns ds "yes" t → TyRs ds kd (ns, ss, us) rs (ns', ss', us') → TyRs ds kd (ns, ss, us') qs (ns2, ss2, us2) → TyR ds kd (ns, ss, us) (.iff t rs qs) (ns, ss, us2)
inductive TyRs (ds : List Df) (kd : Str) : Cx3 → List Rw → Cx3 → Prop
  | nil {c : Cx3} : TyRs ds kd c [] c
  | cons {c c' c2 : Cx3} {r : Rw} {rs : List Rw} : TyR ds kd c r c' → TyRs ds kd c' rs c2 → TyRs ds kd c (r :: rs) c2
end
theorem TyRs.snoc {ds : List Df} {kd : Str} : ∀ {rs : List Rw} {c c' c2 : Cx3} {r : Rw}, TyRs ds kd c rs c' → TyR ds kd c' r c2 → TyRs ds kd c (rs ++ [r]) c2
  | [], _, _, _, _, .nil, h => .cons h .nil
  | _ :: _, _, _, _, _, .cons h1 h2, h => .cons h1 (h2.snoc h)
def cNs (ats : List At) (pls : List Pl) : List Nm := (ats.filter (fun x => if x.w = Str.ofString "const" then !decide (x.f = Str.ofString "") else false)).map toN ++ (pls.filter fun p => decide (p.w = Str.ofString "const")).map fun p => (p.kd, Str.ofString "", p.n)
def dNs (ats : List At) (ps : List (Str × Str)) : List Nm := (ats.filter (fun x => !decide (x.w = Str.ofString "def"))).map toN ++ ps.map pN
def dDs (ats : List At) : List Df := (ats.filter (fun x => decide (x.w = Str.ofString "def"))).map toDf
def dSs (ats : List At) (ps : List (Str × Str)) : List (Str × Str) := (ats.filter (fun x => if x.w = Str.ofString "keep" then decide (x.f = Str.ofString "") else false)).map toS ++ ps.map pS
def PlT (ats : List At) (us : List Str) (pre : List Pl) (p : Pl) (t : Td) : Prop :=
  ((p.w = "const" ∨ p.w = "keep") ∧ ∃ e, t = .val p.w p.out p.n e ∧ TyE (cNs ats pre) [] p.kd e) ∨
  (p.w = "def" ∧ ∃ rs c, t = .dfn p.out p.n p.ps p.kd rs ∧ TyRs (dDs ats) p.kd (dNs ats p.ps, dSs ats p.ps, us) rs c)
def PlTs (ats : List At) (us : List Str) : List Pl → List Pl → List Td → Prop
  | _, [], [] => True
  | pre, p :: ps, t :: ts => PlT ats us pre p t ∧ PlTs ats us (pre ++ [p]) ps ts
  | _, _, _ => False
theorem PlTs.snoc {ats : List At} {us : List Str} : ∀ {qs pre : List Pl} {ts : List Td} {p : Pl} {t : Td}, PlTs ats us pre qs ts → PlT ats us (pre ++ qs) p t → PlTs ats us pre (qs ++ [p]) (ts ++ [t])
  | [], pre, [], p, t, _, h => by simp only [List.nil_append, PlTs]; exact ⟨by simpa using h, trivial⟩
  | q :: qs, pre, t0 :: ts, p, t, h1, h => by
    simp only [PlTs, List.cons_append] at h1 ⊢
    exact ⟨h1.1, h1.2.snoc (by simpa using h)⟩
  | [], _, _ :: _, _, _, h1, _ => by simp [PlTs] at h1
  | _ :: _, _, [], _, _, h1, _ => by simp [PlTs] at h1
def plU (pls : List Pl) : List Str := pls.flatMap fun p => p.ps.map (·.1) ++ [p.n]
end W1
namespace W1
open PySem PySem.Spec PyProof.Rows L2 TL DL
mutual
theorem TyE.mono {ns ns' : List Nm} {ds : List Df} (h : ∀ x ∈ ns, x ∈ ns') : ∀ {kd : Str} {e : Ex}, TyE ns ds kd e → TyE ns' ds kd e
  | _, .num _, q => by simp only [TyE] at q ⊢; exact q
  | _, .truth _, q => by simp only [TyE] at q ⊢; exact q
  | _, .name f n, q => by simp only [TyE] at q ⊢; exact h _ q
  | _, .call f n as, q => by
    simp only [TyE] at q ⊢
    obtain ⟨ks, q1, q2⟩ := q
    exact ⟨ks, q1, TyL.mono h q2⟩
  | _, .un neg a, q => by simp only [TyE] at q ⊢; exact ⟨q.1, TyE.mono h q.2⟩
  | _, .bin op a b, q => by
    simp only [TyE] at q ⊢
    obtain ⟨k, q1, q2, q3⟩ := q
    exact ⟨k, q1, TyE.mono h q2, TyE.mono h q3⟩
theorem TyL.mono {ns ns' : List Nm} {ds : List Df} (h : ∀ x ∈ ns, x ∈ ns') : ∀ {ks : List Str} {es : List Ex}, TyL ns ds ks es → TyL ns' ds ks es
  | [], [], _ => by simp only [TyL]
  | _ :: _, _ :: _, q => by
    simp only [TyL] at q ⊢
    exact ⟨TyE.mono h q.1, TyL.mono h q.2⟩
  | [], _ :: _, q => by simp [TyL] at q
  | _ :: _, [], q => by simp [TyL] at q
end
theorem TyR.sub {ds : List Df} {kd : Str} {c c' : Cx3} {r : Rw} (h : TyR ds kd c r c') : ∀ x ∈ c.1, x ∈ c'.1 := by
  cases h with
  | lt _ _ _ => intro x hx; exact List.mem_append_left _ hx
  | _ => intro x hx; exact hx
theorem TyRs.sub {ds : List Df} {kd : Str} : ∀ {rs : List Rw} {c c' : Cx3}, TyRs ds kd c rs c' → ∀ x ∈ c.1, x ∈ c'.1
  | _, _, _, .nil, x, hx => hx
  | _, _, _, .cons h1 h2, x, hx => h2.sub x (h1.sub x hx)
structure HF where
  f : Str
  us : List Str
  pls : List Pl
  ts : List Td
def HF.e (h : HF) : Str × List Str × List Td := (h.f, h.us, h.ts)
def HF.face (h : HF) : List At := (h.pls.filter (fun p => p.out)).map (plA h.f)
def HF.a (h : HF) : Str × List At := (h.f, h.face)
def faceOf (hs : List HF) (u : Str) : List At := match hs.find? (fun h => decide (h.f = u)) with
  | some h => h.face
  | none => []
def others (hs : List HF) (us : List Str) : List At := us.flatMap (faceOf hs)
structure OkHF (pre : List HF) (h : HF) : Prop where
  nm : IsName h.f
  fr : h.f ∉ pre.map (·.f)
  us : ∀ u ∈ h.us, u ∈ pre.map (·.f)
  und : h.us.Nodup
  pnd : (plU h.pls).Nodup
  pok : ∀ p ∈ h.pls, OkPl p
  pt : PlTs (others pre h.us ++ h.pls.map (plA (Str.ofString ""))) (plU h.pls) [] h.pls h.ts
  og : OgF h.e
  tl : h.ts.length ≤ 3
inductive ScH : List HF → Prop
  | nil : ScH []
  | snoc {hs : List HF} {h : HF} : ScH hs → OkHF hs h → ScH (hs ++ [h])
end W1
set_option Elab.async false
set_option linter.all false
set_option maxRecDepth 100000
namespace W1
open PySem PySem.Spec PyProof.Rows L2 TL DL
def isI : DV → Bool
  | .int _ => true
  | .bl _ => true
  | _ => false
def isP : List DV → Bool
  | [a, b] => isI a && isI b
  | _ => false
mutual
def bareD : DV → DV
  | .tup xs => if isP xs then .non else .tup (bareL xs)
  | .non => .non
  | .bl b => .bl b
  | .int i => .int i
  | .str x => .str x
  | .lst xs => .lst xs
  | .slst xs => .slst xs
  | .stup xs => .stup xs
  | .dK x => .dK x
  | .dT x => .dT x
  | .ref a => .ref a
  | .ty n => .ty n
def bareL : List DV → List DV
  | [] => []
  | x :: xs => bareD x :: bareL xs
end
theorem bareL_map : ∀ xs : List DV, bareL xs = xs.map bareD
  | [] => by simp [bareL]
  | x :: xs => by simp [bareL, bareL_map xs]
def br (e : Ex) (l : Nat) : Nat := if levE e < l then 2 else 0
end W1
set_option Elab.async false
set_option linter.all false
set_option maxRecDepth 100000
namespace W1
open PySem PySem.Spec PyProof.Rows L2 TL DL
structure RX (row last : Str) (ws : List Wd) : Prop where
  ex : Ext (tl row) ws (tl last)
  len : (tl row).length ≤ 9 * ws.length + 60 + if last = "" then 3 else 0
  nl : 10 ∉ tl row
theorem tl_ne {w : Str} {k : Str} (h : WordOk k (tl w)) : w ≠ "" := by
  rintro rfl
  obtain ⟨_, ⟨c, r, e, _⟩, _⟩ := h
  cases e
theorem RX.next {row last w kd : Str} {ws : List Wd} (h : RX row last ws) (hw : WordOk kd (tl w)) (hg : ¬ Glues last w) : RX (row ++ w) w (ws ++ [(kd, tl w, (tl row).length)]) := by
  have hl := h.len
  have h6 := hw.2.2.1
  refine ⟨?_, ?_, ?_⟩
  · have := ext_word (g := 0) h.ex hw fun _ => ng_of hg
    rw [tl_append]
    simpa using this
  · rw [app_len, List.length_append, List.length_singleton, if_neg (tl_ne hw)]
    split at hl <;> omega
  · rw [tl_append]
    intro q
    rcases List.mem_append.mp q with q | q
    · exact h.nl q
    · exact hw.2.2.2.1 q
theorem RX.blank {row last : Str} {ws : List Wd} (h : RX row last ws) (hl : last ≠ "") : RX (row ++ " ") "" ws := by
  have hn := h.len
  rw [if_neg hl] at hn
  have es : tl (Str.ofString " ") = [32] := rfl
  refine ⟨?_, ?_, ?_⟩
  · intro t ws' ht hs
    rw [tl_append, es]
    have := h.ex (32 :: t) ws' (fun x y hx hy => by
      cases hy
      rintro (⟨_, q⟩ | ⟨_, q⟩ | ⟨_, q | q⟩)
      · revert q; decide
      · revert q; decide
      · cases q
      · cases q) (.blank (by rw [tl_append, es, List.length_append] at hs; exact hs))
    rw [List.append_assoc]
    exact this
  · rw [app_len, es, if_pos rfl, List.length_singleton]; omega
  · rw [tl_append, es]
    intro q
    rcases List.mem_append.mp q with q | q
    · exact h.nl q
    · simp at q
theorem RX.start {k : Nat} (h : k ≤ 60) : RX (ofL (List.replicate k 32)) "" [] := by
  refine ⟨?_, ?_, ?_⟩
  · intro t ws' _ hs
    rw [tl_ofL] at hs ⊢
    rw [List.length_replicate] at hs
    exact scan_blanks k 0 (by rw [Nat.zero_add]; exact hs)
  · rw [tl_ofL, List.length_replicate, if_pos rfl]; simp; omega
  · rw [tl_ofL]
    intro q
    have := List.eq_of_mem_replicate q
    omega
end W1
set_option Elab.async false
set_option linter.all false
set_option maxRecDepth 100000
set_option Elab.async false
set_option linter.all false
set_option maxRecDepth 100000
namespace W1
open PySem PySem.Spec PyProof.Rows L2 TL DL
def RowsT (rows : List Str) (k : Nat) (nw : List NW) (cnt : Nat) : Prop := ∃ wss, TxtW rows wss ∧ allE k wss = nw ∧ (∀ ws ∈ wss, ws ≠ []) ∧ (wss.map List.length).sum = cnt
theorem RowsT.nil {k : Nat} : RowsT [] k [] 0 := ⟨[], ⟨trivial, by simp⟩, rfl, by simp, rfl⟩
theorem RowsT.one {row last : Str} {ws : List Wd} (h : RX row last ws) (hne : ws ≠ []) (hl : ws.length ≤ 90) (k : Nat) : RowsT [row] k [(k, ws)] ws.length := by
  refine ⟨[ws], ⟨⟨?_, trivial⟩, ?_⟩, rfl, ?_, by simp⟩
  · have := h.ex [] [] (fun x y _ hy => by cases hy) (.nil _)
    simpa using this
  · intro r hr
    rw [List.mem_singleton] at hr
    subst hr
    have := h.len
    refine ⟨by split at this <;> omega, h.nl⟩
  · intro w hw
    rw [List.mem_singleton] at hw
    subst hw; exact hne
def bl (j : Nat) : Str := ofL (List.replicate j 32)
end W1
set_option Elab.async false
set_option linter.all false
set_option maxRecDepth 100000
namespace W1
open PySem PySem.Spec PyProof.Rows L2 TL DL
def Cnt (wss : List (List Wd)) : Nat := (wss.map List.length).sum
def TxC (z : Str) (t : DV) (c : Nat) : Prop := ∃ (rs : List Str) (wss : List (List Wd)) (us ts : List NW) (uv tv : List DV), (tl z).length ≤ 10000000 ∧ Txt.split z (Str.ofString "\n") = rs ∧ (∀ r ∈ rs, (tl r).length ≤ 10000) ∧ rs.length ≤ 1000 ∧ ScanRows rs wss ∧ nonE wss = us ++ ts ∧ Uses us uv ∧ Tolds ts tv ∧ uv.length ≤ 100000 ∧ t = .tup [.tup uv, .tup tv] ∧ Cnt wss = c
def bareF (us : List Str) (ts : List Td) : DV := .tup [.tup (us.map encU), .tup (ts.map encT)]
end W1
set_option Elab.async false
set_option linter.all false
set_option maxRecDepth 100000
set_option Elab.async false
set_option linter.all false
set_option maxRecDepth 100000
namespace W1
open PySem PySem.Spec PyProof.Rows L2 TL DL
mutual
inductive RwE : Rw → DV → Prop
  | lt {new : Bool} {m : Str} {e : Ex} {p w : DV} : bareD w = enc e → RwE (.lt new m e) (.tup [.str (if new then "let" else "set"), p, .str m, w])
  | one0 {w : Str} {p : DV} : RwE (.one w none) (.tup [.str w, p, .non])
  | one1 {w : Str} {e : Ex} {p x : DV} : bareD x = enc e → RwE (.one w (some e)) (.tup [.str w, p, x])
  | iff {t : Ex} {a b : List Rw} {p x : DV} {as bs : List DV} : bareD x = enc t → RwsE a as → RwsE b bs → RwE (.iff t a b) (.tup [.str "if", p, x, .tup as, .tup bs])
  | whl {t : Ex} {a : List Rw} {p x : DV} {as : List DV} : bareD x = enc t → RwsE a as → RwE (.whl t a) (.tup [.str "while", p, x, .tup as])
inductive RwsE : List Rw → List DV → Prop
  | nil : RwsE [] []
  | cons {r : Rw} {rs : List Rw} {v : DV} {vs : List DV} : RwE r v → RwsE rs vs → RwsE (r :: rs) (v :: vs)
end
inductive PsE : List (Str × Str) → List DV → Prop
  | nil : PsE [] []
  | cons {q : Str × Str} {qs : List (Str × Str)} {p : DV} {vs : List DV} : PsE qs vs → PsE (q :: qs) (.tup [p, .str q.1, .str q.2] :: vs)
inductive TdE : Td → DV → Prop
  | val {w m : Str} {o : Bool} {e : Ex} {p x : DV} : bareD x = enc e → TdE (.val w o m e) (.tup [.str w, p, .bl o, .str m, x])
  | dfn {o : Bool} {m kd : Str} {ps : List (Str × Str)} {rs : List Rw} {p q : DV} {vs bv : List DV} : PsE ps vs → RwsE rs bv → TdE (.dfn o m ps kd rs) (.tup [.str "def", p, .bl o, .str m, .tup vs, .str kd, .tup bv, q])
inductive TdsE : List Td → List DV → Prop
  | nil : TdsE [] []
  | cons {t : Td} {ts : List Td} {v : DV} {vs : List DV} : TdE t v → TdsE ts vs → TdsE (t :: ts) (v :: vs)
end W1
set_option Elab.async false
set_option linter.all false
set_option maxRecDepth 100000
namespace W1
open PySem PySem.Spec PyProof.Rows L2 TL DL
def PB (n : Nat) (v d : DV) : Prop := PV n v ∧ bareD v = d
theorem PB.up {n m : Nat} {v d : DV} (h : PB n v d) (hm : n ≤ m) : PB m v d := ⟨h.1.up hm, h.2⟩
def PBs (n : Nat) (vs ds : List DV) : Prop := (∀ v ∈ vs, PV n v) ∧ bareL vs = ds
theorem bareL_app {a b : List DV} : bareL (a ++ b) = bareL a ++ bareL b := by simp [bareL_map]
theorem PBs.nil {n : Nat} : PBs n [] [] := ⟨by simp, by simp [bareL]⟩
theorem PBs.snoc {n : Nat} {vs ds : List DV} {v d : DV} (h : PBs n vs ds) (h2 : PB n v d) : PBs n (vs ++ [v]) (ds ++ [d]) := by
  refine ⟨fun x hx => ?_, by rw [bareL_app, h.2]; simp [bareL, h2.2]⟩
  rcases List.mem_append.mp hx with hx | hx
  · exact h.1 x hx
  · rw [List.mem_singleton] at hx; subst hx; exact h2.1
theorem PBs.len {n : Nat} {vs ds : List DV} (h : PBs n vs ds) : vs.length = ds.length := by
  have := congrArg List.length h.2
  rwa [bareL_map, List.length_map] at this
def OkB (us : List Str) (ts : List Td) : Prop := us.length ≤ 3 ∧ (∀ u ∈ us, NMW u) ∧ ts.length ≤ 4 ∧ ∀ t ∈ ts, GT t
def TxB (z : Str) (t : DV) : Prop := TxO z t ∧ ∃ us ts, OkB us ts ∧ bareD t = bareF us ts
theorem TxB.ok {z : Str} {t : DV} (h : TxB z t) : ∃ c us ts, TxC z t c ∧ OkB us ts ∧ bareD t = bareF us ts := by
  obtain ⟨⟨rs, wss, us, ts, uv, tv, t1, t2, t3, t4, t5, t6, t7, t8, t9, t10, _⟩, us', ts', h1, h2⟩ := h
  exact ⟨_, us', ts', ⟨rs, wss, us, ts, uv, tv, t1, t2, t3, t4, t5, t6, t7, t8, t9, t10, rfl⟩, h1, h2⟩
end W1
namespace W1
open PySem PySem.Spec PyProof.Rows L2 TL DL
def PuS (v : DV) : Prop := ∃ m, m ≤ 60 ∧ PureS m v
theorem PuS.tup {xs : List DV} (h : PuS (.tup xs)) : ∀ x ∈ xs, PuS x := by
  obtain ⟨m, hm, h⟩ := h
  cases h with
  | tup h => exact fun x hx => ⟨_, by omega, h x hx⟩
theorem PuS.nil {neg : Bool} {xs : List DV} {O : Own} {Q : DVK} (h : PuS (.tup xs)) (k : Q (.bl (if neg then !decide (xs = []) else decide (xs = []))) O) : dEqP neg (.tup xs) (.tup []) O Q := by
  obtain ⟨m, hm, h⟩ := h
  exact tup_nil h (by omega) k
theorem eq_self {neg : Bool} {d : DV} {O : Own} {Q : DVK} (h : PuS d) (k : Q (.bl (!neg)) O) : dEqP neg d d O Q := by
  obtain ⟨m, hm, h⟩ := h
  obtain ⟨p, e, h1, h2⟩ := pure_py h
  unfold dEqP
  refine onSome_of e (onSome_of e ⟨shaped_of h1 h2 (by omega), shaped_of h1 h2 (by omega), ?_⟩)
  rw [PySem.SeqAt.eqv_refl p h1]
  cases neg <;> exact k
inductive RzE : Rw × DV → Prop
  | mk {r : Rw} {v : DV} : RwE r v → RzE (r, v)
end W1
namespace W1
open PySem PySem.Spec PyProof.Rows L2 TL DL
theorem TxB.pv {z : Str} {t : DV} (h : TxB z t) : PV 24 t := by
  obtain ⟨⟨rs, wss, us, ts, uv, tv, t1, t2, t3, t4, t5, t6, t7, t8, t9, t10, t11⟩, _⟩ := h
  exact t11
end W1
set_option Elab.async false
set_option linter.all false
set_option maxRecDepth 100000
namespace W1
open PySem PySem.Spec PyProof.Rows L2 TL DL
inductive PX where
  | num (p : DV) (n : Nat) | truth (p : DV) (b : Bool) | name (p : DV) (f n : Str) | call (p : DV) (f n : Str) (as : List PX) | un (p : DV) (neg : Bool) (a : PX) | bin (p : DV) (op : Str) (a b : PX)
mutual
def enX : PX → DV
  | .num p n => .tup [.str "num", p, .int (n : Int)]
  | .truth p b => .tup [.str "truth", p, .bl b]
  | .name p f n => .tup [.str "name", p, .str f, .str n]
  | .call p f n as => .tup [.str "call", p, .str f, .str n, .tup (enXs as)]
  | .un p neg a => .tup [.str (if neg then "neg" else "not"), p, enX a]
  | .bin p op a b => .tup [.str op, p, enX a, enX b]
def enXs : List PX → List DV
  | [] => []
  | e :: es => enX e :: enXs es
end
mutual
def bareX : PX → Ex
  | .num _ n => .num n
  | .truth _ b => .truth b
  | .name _ f n => .name f n
  | .call _ f n as => .call f n (bareXs as)
  | .un _ neg a => .un neg (bareX a)
  | .bin _ op a b => .bin op (bareX a) (bareX b)
def bareXs : List PX → List Ex
  | [] => []
  | e :: es => bareX e :: bareXs es
end
inductive PRw where
  | lt (p : DV) (new : Bool) (n : Str) (x : PX) | one0 (p : DV) (w : Str) | one1 (p : DV) (w : Str) (x : PX) | iff (p : DV) (t : PX) (a b : List PRw) | whl (p : DV) (t : PX) (a : List PRw)
mutual
def enR : PRw → DV
  | .lt p new n x => .tup [.str (if new then "let" else "set"), p, .str n, enX x]
  | .one0 p w => .tup [.str w, p, .non]
  | .one1 p w x => .tup [.str w, p, enX x]
  | .iff p t a b => .tup [.str "if", p, enX t, .tup (enRs a), .tup (enRs b)]
  | .whl p t a => .tup [.str "while", p, enX t, .tup (enRs a)]
def enRs : List PRw → List DV
  | [] => []
  | r :: rs => enR r :: enRs rs
end
mutual
def bareR : PRw → Rw
  | .lt _ new n x => .lt new n (bareX x)
  | .one0 _ w => .one w none
  | .one1 _ w x => .one w (some (bareX x))
  | .iff _ t a b => .iff (bareX t) (bareRs a) (bareRs b)
  | .whl _ t a => .whl (bareX t) (bareRs a)
def bareRs : List PRw → List Rw
  | [] => []
  | r :: rs => bareR r :: bareRs rs
end
abbrev PP := DV × Str × Str
def enP (q : PP) : DV := .tup [q.1, .str q.2.1, .str q.2.2]
inductive PTd where
  | val (p : DV) (w : Str) (o : Bool) (n : Str) (x : PX) | dfn (p q : DV) (o : Bool) (n : Str) (ps : List PP) (kd : Str) (rs : List PRw)
def enT : PTd → DV
  | .val p w o n x => .tup [.str w, p, .bl o, .str n, enX x]
  | .dfn p q o n ps kd rs => .tup [.str "def", p, .bl o, .str n, .tup (ps.map enP), .str kd, .tup (enRs rs), q]
def PTd.n : PTd → Str
  | .val _ _ _ n _ => n
  | .dfn _ _ _ n _ _ _ => n
def PTd.w : PTd → Str
  | .val _ w _ _ _ => w
  | .dfn .. => "def"
def PTd.o : PTd → Bool
  | .val _ _ o _ _ => o
  | .dfn _ _ o _ _ _ _ => o
def PTd.p : PTd → DV
  | .val p _ _ _ _ => p
  | .dfn p _ _ _ _ _ _ => p
structure TF where
  f : Str
  uv : List (DV × Str)
  td : List PTd
def enU (u : DV × Str) : DV := .tup [u.1, .str u.2]
def TF.d (x : TF) : DV := .tup [.tup (x.uv.map enU), .tup (x.td.map enT)]
abbrev Env := List (Str × DV)
def partD (i : Nat) : DV := .tup [.str "part", .int (i : Int)]
def letD (i : Nat) : DV := .tup [.str "let", .int (i : Int)]
structure Wld where
  fs : List TF
  x0 : TF
def wordOf (fs : List TF) (f n : Str) : Str := match fs.find? (fun x => decide (x.f = f)) with
  | some x => match x.td.find? (fun t => decide (t.n = n)) with
    | some t => t.w
    | none => ""
  | none => ""
def partE : Nat → List PP → Env
  | _, [] => []
  | i, q :: qs => (q.2.1, partD i) :: partE (i + 1) qs
def TolD (fs : List TF) (f n : Str) (t : PTd) : Prop := ∃ x ∈ fs, x.f = f ∧ t ∈ x.td ∧ t.n = n
structure FsOk (fs : List TF) : Prop where
  nd : (fs.map (·.f)).Nodup
  td : ∀ x ∈ fs, (x.td.map PTd.n).Nodup
  fn : ∀ x ∈ fs, x.f ≠ ""
  wd : ∀ x ∈ fs, ∀ t ∈ x.td, t.w = "const" ∨ t.w = "keep" ∨ t.w = "def"
def InE (env : Env) (n : Str) : Prop := n ∈ env.map (·.1)
def NmOk (w : Wld) (us : List Str) (env : Env) (cs : List Str) (b call : Bool) (f n : Str) : Prop :=
  if f = "" then (InE env n ∧ call = false ∧ b = false) ∨ (¬ InE env n ∧ ∃ t ∈ w.x0.td, t.n = n ∧ ((t.w = "def") ↔ call = true) ∧ (b = true → t.w = "const" ∧ n ∈ cs))
  else f ∈ us ∧ ∃ t, TolD w.fs f n t ∧ t.o = true ∧ ((t.w = "def") ↔ call = true) ∧ (b = true → t.w = "const")
mutual
def AllN (P : Bool → Str → Str → Prop) : PX → Prop
  | .num _ _ => True
  | .truth _ _ => True
  | .name _ f n => P false f n
  | .call _ f n as => P true f n ∧ AllNs P as
  | .un _ _ a => AllN P a
  | .bin _ _ a b => AllN P a ∧ AllN P b
def AllNs (P : Bool → Str → Str → Prop) : List PX → Prop
  | [] => True
  | x :: xs => AllN P x ∧ AllNs P xs
end
end W1
namespace W1
open PySem PySem.Spec PyProof.Rows L2 TL DL
abbrev Wld.W (w : Wld) : Str → Str → Str := wordOf w.fs
abbrev Wld.fl (w : Wld) : Str := w.x0.f
end W1
set_option Elab.async false
set_option linter.all false
set_option maxRecDepth 100000
namespace W1
open PySem PySem.Spec PyProof.Rows L2 TL DL
def trK (fs : List TF) : List (Key × DV) := fs.map fun x => (Sum.inr x.f, x.d)
def owD (t : PTd) : DV := .tup [.str t.w, t.p, .bl t.o]
def owK (ts : List PTd) : List (Key × DV) := ts.map fun t => (Sum.inr t.n, owD t)
def enK (env : Env) : List (Key × DV) := env.map fun x => (Sum.inr x.1, x.2)
def seK (ns : List Str) : List (Key × DV) := ns.map fun n => (Sum.inr n, .bl true)
structure Sit where
  pu : Addr
  pf : Addr
  ps : Addr
  pk : Addr
  pc : Addr
  us : List Str
  fd : List DV
  env : Env
  kn : List Str
  cs : List Str
  k : Nat
  b : Bool
abbrev scF (t : DV) (f : Str) (o u d s k l c b : DV) : List (Str × DV) := [("trees", t), ("file", .str f), ("own", o), ("used", u), ("found", d), ("stands", s), ("known_names", k), ("lets", l), ("consts", c), ("is_first", b)]
@[irreducible] def scG (t : DV) (f : Str) (o u d s k l c b : DV) : List (Str × DV) := scF t f o u d s k l c b
section
variable {t o u d s k l c b v : DV} {f : Str}
theorem sc_len : (scG t f o u d s k l c b).length = 10 := by unfold scG; rfl
end
def cellS (C : Addr) (w : Wld) (s : Sit) : Cell := .ins C (scG (.dK (trK w.fs)) w.x0.f (.dK (owK w.x0.td)) (.ref s.pu) (.ref s.pf) (.ref s.ps) (.ref s.pk) (.int (s.k : Int)) (.ref s.pc) (.bl s.b))
def EnvOk (env : Env) : Prop := ∀ x ∈ env, ∃ k, x.2 = partD k ∨ x.2 = letD k
structure ScS (C : Addr) (O : Own) (a : Addr) (w : Wld) (s : Sit) : Prop where
  ha : O a = some (cellS C w s)
  hu : O s.pu = some (.lst (s.us.map DV.str))
  hf : O s.pf = some (.lst s.fd)
  hs : O s.ps = some (.dK (enK s.env))
  hk : O s.pk = some (.dK (seK s.kn))
  hc : O s.pc = some (.dK (seK s.cs))
  uf : s.pu ≠ s.pf
  sk : s.ps ≠ s.pk
  sc : s.ps ≠ s.pc
  kc : s.pk ≠ s.pc
  en : EnvOk s.env
structure WOk (w : Wld) : Prop where
  fs : FsOk w.fs
  x0 : w.x0 ∈ w.fs
theorem ne_cell {O : Own} {a b : Addr} {c d : Cell} (h : O a = some c) (h2 : O b = some d) (ne : c ≠ d) : a ≠ b := fun e => ne (by subst e; rw [h] at h2; exact Option.some.inj h2)
section
variable {C : Addr} {O : Own} {a : Addr} {w : Wld} {s : Sit}
theorem ScS.au (h : ScS C O a w s) : a ≠ s.pu := ne_cell h.ha h.hu (by simp [cellS])
theorem ScS.af (h : ScS C O a w s) : a ≠ s.pf := ne_cell h.ha h.hf (by simp [cellS])
theorem ScS.as (h : ScS C O a w s) : a ≠ s.ps := ne_cell h.ha h.hs (by simp [cellS])
theorem ScS.ac (h : ScS C O a w s) : a ≠ s.pc := ne_cell h.ha h.hc (by simp [cellS])
theorem ScS.fk (h : ScS C O a w s) : s.pf ≠ s.pk := ne_cell h.hf h.hk (by simp)
theorem ScS.side (h : ScS C O a w s) {p : Addr} {c : Cell} (hp : O p = none) : ScS C (oset O p c) a w s :=
  ⟨keep_at hp h.ha, keep_at hp h.hu, keep_at hp h.hf, keep_at hp h.hs, keep_at hp h.hk, keep_at hp h.hc, h.uf, h.sk, h.sc, h.kc, h.en⟩
end
def SetOk (w : Wld) (env : Env) (n : Str) : Prop := InE env n ∨ (¬ InE env n ∧ ∃ t ∈ w.x0.td, t.n = n ∧ t.w = "keep")
structure CtxOk (w : Wld) (ds : List Df) (c : Cx3) (us : List Str) (env : Env) (kn : List Str) : Prop where
  n : ∀ x ∈ c.1, NmOk w us env [] false false x.2.1 x.2.2 ∧ (x.2.1 = "" → x.2.2 ∈ c.2.2)
  d : ∀ x ∈ ds, NmOk w us env [] false true x.1 x.2.1 ∧ (x.1 = "" → x.2.1 ∈ c.2.2)
  s : ∀ x ∈ c.2.1, SetOk w env x.2 ∧ x.2 ∈ c.2.2
  kn : ∀ n ∈ kn, n ∈ c.2.2
  ow : ∀ t ∈ w.x0.td, t.n ∈ c.2.2
  en : ∀ x ∈ env, x.1 ∈ c.2.2
theorem CtxOk.used {w : Wld} {ds : List Df} {ns : List Nm} {ss : List (Str × Str)} {vs vs' us : List Str} {env : Env} {kn kn' : List Str} (h : CtxOk w ds (ns, ss, vs) us env kn) (hv : ∀ x ∈ vs, x ∈ vs') (hk : ∀ n ∈ kn', n ∈ vs') : CtxOk w ds (ns, ss, vs') us env kn' :=
  ⟨fun x hx => ⟨(h.n x hx).1, fun e => hv _ ((h.n x hx).2 e)⟩, fun x hx => ⟨(h.d x hx).1, fun e => hv _ ((h.d x hx).2 e)⟩, fun x hx => ⟨(h.s x hx).1, hv _ (h.s x hx).2⟩, hk, fun t ht => hv _ (h.ow t ht), fun x hx => hv _ (h.en x hx)⟩
mutual
theorem TyR.us {ds : List Df} {kd : Str} : ∀ {r : Rw} {c c' : Cx3}, TyR ds kd c r c' → ∀ x ∈ c.2.2, x ∈ c'.2.2
  | _, _, _, .lt _ _ _, x, hx => List.mem_append_left _ hx
  | _, _, _, .st _ _, x, hx => hx
  | _, _, _, .gv0 _, x, hx => hx
  | _, _, _, .gv _ _, x, hx => hx
  | _, _, _, .sy _ _, x, hx => hx
  | _, _, _, .dc _, x, hx => hx
  | _, _, _, .whl _ h, x, hx => TyRs.us h x hx
  | _, _, _, .iff _ h h2, x, hx => TyRs.us h2 x (TyRs.us h x hx)
theorem TyRs.us {ds : List Df} {kd : Str} : ∀ {rs : List Rw} {c c' : Cx3}, TyRs ds kd c rs c' → ∀ x ∈ c.2.2, x ∈ c'.2.2
  | _, _, _, .nil, x, hx => hx
  | _, _, _, .cons h h2, x, hx => TyRs.us h2 x (TyR.us h x hx)
end
def TextOk (z : Str) : Prop := (∀ c ∈ tl z, c = 10 ∨ (32 ≤ c ∧ c ≤ 126)) ∧ (Txt.split z (Str.ofString "
")).length ≤ 60 ∧ (tl z).length ≤ 1000000
def NameF (w : Str) : Prop := 1 ≤ (tl w).length ∧ (tl w).length ≤ 6 ∧ ∀ c ∈ tl w, c ∈ tl (Str.ofString "abcdefghijklmnopqrstuvwxyz")
structure TxsOk (tx : List (Str × Str)) : Prop where
  l1 : 1 ≤ tx.length
  l8 : tx.length ≤ 8
  nd : (tx.map (·.1)).Nodup
  ok : ∀ x ∈ tx, NameF x.1 ∧ TextOk x.2
def UsOk (fs : List TF) (rk : Str → Nat) : Prop := ∀ x ∈ fs, rk x.f < 8 ∧ x.uv.length ≤ 8 ∧ (x.uv.map (·.2)).Nodup ∧ ∀ u ∈ x.uv, u.2 ∈ fs.map (·.f) ∧ rk u.2 < rk x.f
structure DfOk (w : Wld) (us : List Str) (ps : List PP) (kd : Str) (rs : List PRw) : Prop where
  ex : ∃ (ds : List Df) (c c' : Cx3), TyRs ds kd c (bareRs rs) c' ∧ CtxOk w ds c us (partE 0 ps) (ps.map fun q => q.2.1)
  nd : (ps.map fun q => q.2.1).Nodup
  ow : ∀ q ∈ ps, ∀ t ∈ w.x0.td, t.n ≠ q.2.1
  gr : GRs 4 (bareRs rs)
  pl : ps.length ≤ 3
  cl : cRs (bareRs rs) ≤ 41
def TdOk (w : Wld) (us : List Str) (pre : List PTd) : PTd → Prop
  | .val _ wd _ _ x => (wd = "const" ∨ wd = "keep") ∧ WX5 2 (bareX x) ∧ AllN (NmOk w us [] ((pre.filter fun t => !decide (t.w = Str.ofString "def")).map PTd.n) true) x
  | .dfn _ _ _ _ ps kd rs => DfOk w us ps kd rs
structure FlOk (w : Wld) : Prop where
  td : ∀ (pre : List PTd) (t : PTd) (post : List PTd), w.x0.td = pre ++ t :: post → TdOk w (w.x0.uv.map (·.2)) pre t
  tl : w.x0.td.length ≤ 4
structure HsOk (fs : List TF) (rk : Str → Nat) : Prop where
  fo : FsOk fs
  us : UsOk fs rk
  fl : ∀ x ∈ fs, FlOk ⟨fs, x⟩
  fl8 : fs.length ≤ 8
end W1
set_option Elab.async false
set_option linter.all false
set_option maxRecDepth 100000
namespace W1
open PySem PySem.Spec PyProof.Rows L2 TL DL
theorem one_lt {c d : Nat} : (([c] : List Nat) < [d]) ↔ c < d := by
  constructor
  · intro h
    cases h with
    | rel h => exact h
    | cons h => cases h
  · intro h; exact .rel h
theorem sign_lo {c : Nat} (h : 32 ≤ c) : decide ((Str.mk #[c]).cps.toList < (Str.ofString " ").cps.toList) = false := by
  have e : (Str.ofString " ").cps.toList = [32] := rfl
  rw [e]
  exact decide_eq_false fun q => by have := one_lt.mp q; omega
theorem sign_hi {c : Nat} (h : c ≤ 126) : decide ((Str.ofString "~").cps.toList < (Str.mk #[c]).cps.toList) = false := by
  have e : (Str.ofString "~").cps.toList = [126] := rfl
  rw [e]
  exact decide_eq_false fun q => by have := one_lt.mp q; omega
theorem nl_sign : (Str.mk #[10] = Str.ofString "\n") := rfl
end W1
namespace W1
open PySem PySem.Spec PyProof.Rows L2 TL DL
theorem dLenD_e1 {a : Addr} {O : Own} {Q : DVK} : DL.dLenD [.ref a] O Q = onK (O a) fun es => Q (.int es.length) O := rfl
end W1
set_option Elab.async false
set_option linter.all false
set_option maxRecDepth 100000
set_option maxHeartbeats 4000000
namespace DL
open PySem PySem.Spec PyProof.Rows L2 TL
variable {XW : DXK}
def dListF : List DV → Own → DVK → Prop
  | [d], O, Q => seqQ O d fun xs => Q (.lst xs) O
  | _, _, _ => False
theorem cd_listF {X : Cx} : CallD X (.type "list") dListF := by
  refine ⟨fun g0 => CallR_imp call_list_of ?_⟩
  rintro vs H VQ ⟨F, O, ds, Q, rs, rr, h, fin⟩
  unfold dListF at h
  split at h
  · obtain ⟨v, rfl, r⟩ := rr.one
    obtain ⟨xs, e, h⟩ := seqQ_ex h
    obtain ⟨a, ws, rfl, h1, r1⟩ := seqOf_at rs r e
    refine ⟨_, _, rfl, h1, fun p hp => ?_⟩
    exact fin _ _ h _ _ _ (rs.new hp _) (.lst upd_same (r1.mono (rs.new hp _).sub))
  · exact h.elim
theorem dListF_e1 {d : DV} {O : Own} {Q : DVK} : dListF [d] O Q = seqQ O d fun xs => Q (.lst xs) O := rfl
end DL
set_option Elab.async false
set_option linter.all false
set_option maxRecDepth 100000
set_option maxHeartbeats 4000000
namespace W1
open PySem PySem.Spec PyProof.Rows L2 TL DL
theorem lit0 : (tl (Str.ofString "wholetongue.errors")).length = 18 := rfl
theorem lit1 : (tl (Str.ofString "abcdefghijklmnopqrstuvwxyz")).length = 26 := rfl
theorem lit2 : (tl (Str.ofString "wholetongue.names")).length = 17 := rfl
theorem lit3 : (tl (Str.ofString "wholetongue.house")).length = 17 := rfl
theorem lit4 : (tl (Str.ofString "law_wholetongue_k19_files_laid_and_edited")).length = 41 := rfl
theorem lit5 : (tl (Str.ofString "abcdefghij")).length = 10 := rfl
theorem lit6 : (tl (Str.ofString "a text that can't be")).length = 20 := rfl
theorem lit7 : (tl (Str.ofString "refused")).length = 7 := rfl
theorem lit8 : (tl (Str.ofString "house")).length = 5 := rfl
theorem lit9 : (tl (Str.ofString "rows")).length = 4 := rfl
theorem lit10 : (tl (Str.ofString "file")).length = 4 := rfl
theorem lit11 : (tl (Str.ofString "x")).length = 1 := rfl
theorem lit12 : (tl (Str.ofString "no such file")).length = 12 := rfl
theorem lit13 : (tl (Str.ofString "a file that can't be")).length = 20 := rfl
theorem lit14 : (tl (Str.ofString "no such rows")).length = 12 := rfl
theorem lit15 : (tl (Str.ofString "more than a row")).length = 15 := rfl
theorem lit16 : (tl (Str.ofString "nothing was made")).length = 16 := rfl
theorem lit17 : (tl (Str.ofString "other")).length = 5 := rfl
theorem lit18 : (tl (Str.ofString "")).length = 0 := rfl
theorem lit19 : (tl (Str.ofString "const a = 1")).length = 11 := rfl
theorem lit20 : (tl (Str.ofString "# x")).length = 3 := rfl
theorem lit21 : (tl (Str.ofString "zz")).length = 2 := rfl
theorem lit22 : (tl (Str.ofString " ")).length = 1 := rfl
theorem lit23 : (tl (Str.ofString "~")).length = 1 := rfl
theorem lit24 : (tl (Str.ofString "made")).length = 4 := rfl
local macro_rules | `(tactic| walk_at "e1") => `(tactic| simp only [DL.dFz, ↓DL.onL_e1, DL.dTold, DL.dMethX, DL.dMakeX, DL.dForK, DL.dLcV, ↓DL.dMax2_e1, ↓DL.dMaxL_e1, DL.keyV_str, DL.cutD_tail, eq_self, Int.reduceEq, List.nil_append, List.cons_append, DL.ofs_eq, String.reduceEq, DL.inD_cons, DL.inD_nil, Bool.or_false, Bool.or_true, Bool.false_or, Bool.true_or, decide_true, decide_false, not_true_eq_false, not_false_eq_true, DL.dPar, ↓DL.kPar_e1, DL.dPar3, ↓DL.kPar3_e1, DL.dGet1, DL.dGet2, DL.dKGet2, DL.dAsg, DL.dVar, DL.dgName, DL.dgLst, DL.dgSub, List.length_cons, List.length_nil, List.set_cons_zero, List.set_cons_succ, DL.dAnd, DL.dOr, DL.dNot, DL.dTest, DL.dTrue, DL.dOp, DL.dCB, DL.dACons, DL.dANil, DL.dInQ, DL.dIxQ, DL.dAug, DL.dC, DL.dRet, DL.dRetF, DL.dRetN, DL.dSl, DL.dPart, DL.dNoPart, DL.dIf, DL.dIfS, DL.dTup, DL.dLstF, DL.dLstO, DL.dDrop, DL.dNever, DL.dNext, DL.dBreak, DL.dCont, DL.dFor, DL.dILst, DL.dITup, DL.dIStr, DL.dIRng1, DL.dIRng2, DL.dIEnum, DL.dIZip, DL.dBM, DL.dBM0, DL.dCall, DL.dFld, DL.dSFld, DL.dSFldI, DL.dMeth, DL.dMake, DL.dRaise, DL.dXf, DL.dEqL, ↓DL.dStrip_e1, ↓DL.onX_e1, DL.dCallX, ↓DL.onI_e1, DL.dAddO, DL.dMulO, ↓DL.kMulO_e1, DL.dLcO, DL.dAndV, DL.dOrV, DL.dNotV, DL.dNeg, DL.dDix, DL.dDin, DL.dDisp, DL.dDispF, DL.dDNew, DL.dLc, DL.dLc2, DL.bind1, DL.dYes, DL.dFrz, List.map_cons, List.map_nil, List.getElem?_cons_succ, List.getElem?_cons_zero, DL.atI_0, DL.atI_1, DL.atI_2, DL.atI_3, DL.atI_4, DL.atI_5, DL.atI_6, DL.atI_7, DL.ixN_0, DL.ixN_1, DL.ixN_2, DL.ixN_3, DL.oset_same, DL.oset_oset, DL.tl_one, DL.tl_ofL, TL.len_tl, DL.atI_nat_, Bool.false_eq_true, Bool.true_eq_false, Bool.not_false, Bool.not_true, if_true, if_false, decide_eq_true_eq, Bool.not_eq_true', Bool.not_eq_true, decide_eq_false_iff_not, Option.isSome_some, Option.isSome_none, List.all_cons, List.all_nil, Bool.and_self, Bool.true_and, Bool.and_true, ↓reduceIte, and_true, true_and, Nat.zero_add, Nat.reduceAdd, Nat.reduceLeDiff, ↓DL.onSome_e1, ↓DL.onL_e1, ↓DL.lstQ_e1, ↓DL.lstQ_e2, ↓DL.seqQ_e1, ↓DL.seqQ_e2, ↓DL.seqQ_e3, ↓DL.seqQ_e4, ↓DL.seqQ_e5, ↓DL.sqlQ_e1, ↓DL.sqlQ_e2, ↓DL.sqlQ_e3, ↓DL.onK_e1, ↓DL.onT_e1, ↓DL.dkQ_e1, ↓DL.dkQ_e2, ↓DL.dtQ_e1, ↓DL.dtQ_e2, ↓DL.findQ_e1, ↓DL.findQ_e2, ↓DL.findQ_e3, ↓DL.dAdd_e1, ↓DL.dAdd_e2, ↓DL.dAdd_e3, ↓DL.dAdd_e4, ↓DL.dAdd_e5, ↓DL.dAdd_e6, ↓DL.dAdd_e7, ↓DL.dI2_e1, ↓DL.dSub_e1, ↓DL.dCmpI_e1, ↓DL.dEq_e1, ↓DL.dEq_e2, ↓DL.dEq_e3, ↓DL.dEq_e4, ↓DL.dEq_e5, ↓DL.dEq_e6, ↓DL.dEq_e7, ↓DL.dEq_e8, ↓DL.dEq_e9, ↓DL.dEq_e10, ↓DL.dEq_e11, ↓DL.dEq_e12, ↓DL.dEq_e13, ↓DL.dEq_e14, ↓DL.dEq_e15, ↓DL.dIsN_e1, DL.isNon_e1, ↓DL.dInS_e1, ↓DL.dIn_e1, ↓DL.dIn_e2, ↓DL.dIn_e3, ↓DL.dIn_e4, ↓DL.dIn_e5, ↓DL.dIn_e6, ↓DL.dInK_e1, ↓DL.dIx_e1, ↓DL.dIx_e2, ↓DL.dIx_e3, ↓DL.dIx_e4, ↓DL.dIx_e5, ↓DL.dIx_e6, ↓DL.kBl_e1, ↓DL.kInt_e1, ↓DL.kTru_e1, ↓DL.kTru_e2, ↓DL.kTru_e3, ↓DL.kTru_e4, ↓DL.kTru_e5, ↓DL.kTru_e6, ↓DL.kTru_e7, ↓DL.kTru_e8, ↓DL.kTru_e9, ↓DL.kRef_e1, ↓DL.kLst_e1, ↓DL.kLst_e2, ↓DL.kTup_e1, ↓DL.kTup_e2, ↓DL.kStr_e1, ↓DL.kRng1_e1, ↓DL.kRng2_e1, ↓DL.kEnum_e1, ↓DL.kEnum_e2, ↓DL.kZip_e1, ↓DL.frzC_e1, ↓DL.frzC_e2, ↓DL.frzC_e3, ↓DL.dSlR_e1, ↓DL.dSlR_e2, ↓DL.dSlR_e3, ↓DL.dSlR_e4, ↓DL.dSlR_e5, ↓DL.dLen_e1, ↓DL.dLen_e2, ↓DL.dLen_e3, ↓DL.dLen_e4, ↓DL.dLen_e5, ↓DL.dLen_e6, ↓DL.dInt_e1, ↓DL.dInt_e2, ↓DL.dInt_e3, ↓DL.dStrI_e1, ↓DL.dIsi_e1, DL.tyName_e1, DL.tyName_e2, DL.tyName_e3, DL.tyName_e4, DL.tyName_e5, DL.tyName_e6, DL.tyName_e7, DL.tyName_e8, DL.tyName_e9, DL.tyName_e10, ↓DL.dApp_e1, ↓DL.dJoin_e1, ↓DL.dSplit_e1, ↓DL.dgNil_e1, ↓DL.dgCons_e1, ↓DL.dgTup_e1, ↓DL.dSetL_e1, ↓DL.dSetD_e1, ↓DL.dSetD_e2, ↓DL.dSetD_e3, ↓DL.dIAdd_e1, ↓DL.dIAdd_e2, ↓DL.dISub_e1, ↓DL.apart_e1, ↓DL.dUpd_e1, ↓DL.dMulS_e1, ↓DL.dInL_e1, ↓DL.endLc_e1, ↓DL.endLc_e2, DL.bindN_e1, DL.setAll_e1, DL.setAll_e2, DL.mTy_e1, DL.mTy_e2, DL.mTy_e3, DL.mTy_e4, DL.strsOf_e1, DL.strsOf_e2, DL.keyD_e1, DL.keyD_e2, DL.keysD_e1, DL.keysD_e2, ↓DL.forW_e1, ↓DL.forW_e2, ↓DL.lcW_e1, ↓DL.lcW_e2, ↓DL.lcG_e1, ↓DL.lcG_e2, ↓DL.lc2W_e1, ↓DL.lc2W_e2, ↓DL.dPairs_e1, ↓DL.dPairs_e2, DL.kvsOf_e1, DL.kvsOf_e2, DL.slot_e1, DL.slot_e2, DL.dwipe_e1, DL.dwipe_e2, DL.enumD_e1, DL.enumD_e2, DL.zipD_e1, DL.dstart_e1, DL.dstart_e2, DL.dstart_e3, DL.flatD_e1, DL.flatD_e2, DL.flatD_e3, DL.flatD_e4, DL.eqF_e1, DL.eqF_e2, DL.eqF_e3, DL.eqF_e4, DL.eqF_e5, DL.eqF_e6, ↓DL.dTupOf_e1, ↓DL.dTupOf_e2, ↓DL.dTupOf_e3, ↓DL.dListOf_e1, ↓DL.dMin2_e1, ↓DL.dExt_e1, ↓DL.dMulL_e1, ↓DL.dIsD_e1, ↓DL.dIsD_e2, ↓DL.dIsD_e3, ↓DL.dSortD_e1, ↓DL.kStr1_e1, DL.klook_e1, ↓DL.dVar_n0, ↓DL.dgName_n0, ↓DL.obind_n0, ↓DL.oslot_n0, ↓DL.dVar_n1, ↓DL.dgName_n1, ↓DL.obind_n1, ↓DL.oslot_n1, ↓DL.dVar_n2, ↓DL.dgName_n2, ↓DL.obind_n2, ↓DL.oslot_n2, ↓DL.dVar_n3, ↓DL.dgName_n3, ↓DL.obind_n3, ↓DL.oslot_n3, ↓DL.dVar_n4, ↓DL.dgName_n4, ↓DL.obind_n4, ↓DL.oslot_n4, ↓DL.dVar_n5, ↓DL.dgName_n5, ↓DL.obind_n5, ↓DL.oslot_n5, ↓DL.dVar_n6, ↓DL.dgName_n6, ↓DL.obind_n6, ↓DL.oslot_n6, ↓DL.dVar_n7, ↓DL.dgName_n7, ↓DL.obind_n7, ↓DL.oslot_n7, ↓DL.dVar_n8, ↓DL.dgName_n8, ↓DL.obind_n8, ↓DL.oslot_n8, ↓DL.dVar_n9, ↓DL.dgName_n9, ↓DL.obind_n9, ↓DL.oslot_n9, ↓DL.dVar_n10, ↓DL.dgName_n10, ↓DL.obind_n10, ↓DL.oslot_n10, ↓DL.dVar_n11, ↓DL.dgName_n11, ↓DL.obind_n11, ↓DL.oslot_n11, ↓DL.dVar_n12, ↓DL.dgName_n12, ↓DL.obind_n12, ↓DL.oslot_n12, ↓DL.dVar_n13, ↓DL.dgName_n13, ↓DL.obind_n13, ↓DL.oslot_n13, ↓DL.dVar_n14, ↓DL.dgName_n14, ↓DL.obind_n14, ↓DL.oslot_n14, ↓DL.dVar_n15, ↓DL.dgName_n15, ↓DL.obind_n15, ↓DL.oslot_n15, ↓DL.dVar_n16, ↓DL.dgName_n16, ↓DL.obind_n16, ↓DL.oslot_n16, ↓DL.dVar_n17, ↓DL.dgName_n17, ↓DL.obind_n17, ↓DL.oslot_n17, ↓DL.dVar_n18, ↓DL.dgName_n18, ↓DL.obind_n18, ↓DL.oslot_n18, ↓DL.dVar_n19, ↓DL.dgName_n19, ↓DL.obind_n19, ↓DL.oslot_n19, ↓DL.dVar_n20, ↓DL.dgName_n20, ↓DL.obind_n20, ↓DL.oslot_n20, ↓DL.dVar_n21, ↓DL.dgName_n21, ↓DL.obind_n21, ↓DL.oslot_n21, ↓DL.dVar_n22, ↓DL.dgName_n22, ↓DL.obind_n22, ↓DL.oslot_n22, ↓DL.dVar_n23, ↓DL.dgName_n23, ↓DL.obind_n23, ↓DL.oslot_n23, ↓DL.dVar_n24, ↓DL.dgName_n24, ↓DL.obind_n24, ↓DL.oslot_n24, ↓DL.dVar_n25, ↓DL.dgName_n25, ↓DL.obind_n25, ↓DL.oslot_n25, ↓DL.dVar_n26, ↓DL.dgName_n26, ↓DL.obind_n26, ↓DL.oslot_n26, ↓DL.dVar_n27, ↓DL.dgName_n27, ↓DL.obind_n27, ↓DL.oslot_n27, ↓DL.dVar_n28, ↓DL.dgName_n28, ↓DL.obind_n28, ↓DL.oslot_n28, ↓DL.dVar_n29, ↓DL.dgName_n29, ↓DL.obind_n29, ↓DL.oslot_n29, ↓DL.isiM_int, ↓DL.subTy_NoneType_int, ↓DL.subTy_bool_int, ↓DL.subTy_int_int, ↓DL.subTy_str_int, ↓DL.subTy_tuple_int, ↓DL.subTy_list_int, ↓DL.subTy_dict_int, ↓DL.isiM_str, ↓DL.subTy_NoneType_str, ↓DL.subTy_bool_str, ↓DL.subTy_int_str, ↓DL.subTy_str_str, ↓DL.subTy_tuple_str, ↓DL.subTy_list_str, ↓DL.subTy_dict_str, ↓DL.isiM_bool, ↓DL.subTy_NoneType_bool, ↓DL.subTy_bool_bool, ↓DL.subTy_int_bool, ↓DL.subTy_str_bool, ↓DL.subTy_tuple_bool, ↓DL.subTy_list_bool, ↓DL.subTy_dict_bool, ↓DL.isiM_list, ↓DL.subTy_NoneType_list, ↓DL.subTy_bool_list, ↓DL.subTy_int_list, ↓DL.subTy_str_list, ↓DL.subTy_tuple_list, ↓DL.subTy_list_list, ↓DL.subTy_dict_list, ↓DL.isiM_tuple, ↓DL.subTy_NoneType_tuple, ↓DL.subTy_bool_tuple, ↓DL.subTy_int_tuple, ↓DL.subTy_str_tuple, ↓DL.subTy_tuple_tuple, ↓DL.subTy_list_tuple, ↓DL.subTy_dict_tuple, ↓DL.isiM_dict, ↓DL.subTy_NoneType_dict, ↓DL.subTy_bool_dict, ↓DL.subTy_int_dict, ↓DL.subTy_str_dict, ↓DL.subTy_tuple_dict, ↓DL.subTy_list_dict, ↓DL.subTy_dict_dict, ↓DL.isNon_tup, ↓DL.isNon_lst, ↓DL.isNon_stup, ↓DL.isNon_slst, ↓DL.isNon_str, ↓DL.isNon_int, ↓DL.isNon_bl, ↓DL.isNon_ref, ↓DL.isNon_dK, ↓DL.isNon_dT, W1.lu_texts, W1.sc_len, DL.dLeS, W1.mh_need, W1.mh_lay, W1.mh_edit, W1.mh_drop, W1.mh_text, W1.mh_all_files, DL.kBl_e, DL.dChain, ↓W1.dLenD_e1, DL.dClear, DL.dListF_e1, ↓DL.dSortS_e1, ↓DL.dSortO_e1, ↓DL.dPop_e1, ↓DL.dPop_e2, DL.dRaiseP, DL.dListOf])
local macro_rules | `(tactic| wp_walk using $ts,*) => `(tactic| ((try simp only [DL.dFz, ↓DL.onL_e1, DL.dTold, DL.dMethX, DL.dMakeX, DL.dForK, DL.dLcV, ↓DL.dMax2_e1, ↓DL.dMaxL_e1, DL.keyV_str, DL.cutD_tail, eq_self, Int.reduceEq, List.nil_append, List.cons_append, DL.ofs_eq, String.reduceEq, DL.inD_cons, DL.inD_nil, Bool.or_false, Bool.or_true, Bool.false_or, Bool.true_or, decide_true, decide_false, not_true_eq_false, not_false_eq_true, DL.dPar, ↓DL.kPar_e1, DL.dPar3, ↓DL.kPar3_e1, DL.dGet1, DL.dGet2, DL.dKGet2, DL.dAsg, DL.dVar, DL.dgName, DL.dgLst, DL.dgSub, List.length_cons, List.length_nil, List.set_cons_zero, List.set_cons_succ, DL.dAnd, DL.dOr, DL.dNot, DL.dTest, DL.dTrue, DL.dOp, DL.dCB, DL.dACons, DL.dANil, DL.dInQ, DL.dIxQ, DL.dAug, DL.dC, DL.dRet, DL.dRetF, DL.dRetN, DL.dSl, DL.dPart, DL.dNoPart, DL.dIf, DL.dIfS, DL.dTup, DL.dLstF, DL.dLstO, DL.dDrop, DL.dNever, DL.dNext, DL.dBreak, DL.dCont, DL.dFor, DL.dILst, DL.dITup, DL.dIStr, DL.dIRng1, DL.dIRng2, DL.dIEnum, DL.dIZip, DL.dBM, DL.dBM0, DL.dCall, DL.dFld, DL.dSFld, DL.dSFldI, DL.dMeth, DL.dMake, DL.dRaise, DL.dXf, DL.dEqL, ↓DL.dStrip_e1, ↓DL.onX_e1, DL.dCallX, ↓DL.onI_e1, DL.dAddO, DL.dMulO, ↓DL.kMulO_e1, DL.dLcO, DL.dAndV, DL.dOrV, DL.dNotV, DL.dNeg, DL.dDix, DL.dDin, DL.dDisp, DL.dDispF, DL.dDNew, DL.dLc, DL.dLc2, DL.bind1, DL.dYes, DL.dFrz, List.map_cons, List.map_nil, List.getElem?_cons_succ, List.getElem?_cons_zero, DL.atI_0, DL.atI_1, DL.atI_2, DL.atI_3, DL.atI_4, DL.atI_5, DL.atI_6, DL.atI_7, DL.ixN_0, DL.ixN_1, DL.ixN_2, DL.ixN_3, DL.oset_same, DL.oset_oset, DL.tl_one, DL.tl_ofL, TL.len_tl, DL.atI_nat_, Bool.false_eq_true, Bool.true_eq_false, Bool.not_false, Bool.not_true, if_true, if_false, decide_eq_true_eq, Bool.not_eq_true', Bool.not_eq_true, decide_eq_false_iff_not, Option.isSome_some, Option.isSome_none, List.all_cons, List.all_nil, Bool.and_self, Bool.true_and, Bool.and_true, ↓reduceIte, and_true, true_and, Nat.zero_add, Nat.reduceAdd, Nat.reduceLeDiff, ↓DL.onSome_e1, ↓DL.onL_e1, ↓DL.lstQ_e1, ↓DL.lstQ_e2, ↓DL.seqQ_e1, ↓DL.seqQ_e2, ↓DL.seqQ_e3, ↓DL.seqQ_e4, ↓DL.seqQ_e5, ↓DL.sqlQ_e1, ↓DL.sqlQ_e2, ↓DL.sqlQ_e3, ↓DL.onK_e1, ↓DL.onT_e1, ↓DL.dkQ_e1, ↓DL.dkQ_e2, ↓DL.dtQ_e1, ↓DL.dtQ_e2, ↓DL.findQ_e1, ↓DL.findQ_e2, ↓DL.findQ_e3, ↓DL.dAdd_e1, ↓DL.dAdd_e2, ↓DL.dAdd_e3, ↓DL.dAdd_e4, ↓DL.dAdd_e5, ↓DL.dAdd_e6, ↓DL.dAdd_e7, ↓DL.dI2_e1, ↓DL.dSub_e1, ↓DL.dCmpI_e1, ↓DL.dEq_e1, ↓DL.dEq_e2, ↓DL.dEq_e3, ↓DL.dEq_e4, ↓DL.dEq_e5, ↓DL.dEq_e6, ↓DL.dEq_e7, ↓DL.dEq_e8, ↓DL.dEq_e9, ↓DL.dEq_e10, ↓DL.dEq_e11, ↓DL.dEq_e12, ↓DL.dEq_e13, ↓DL.dEq_e14, ↓DL.dEq_e15, ↓DL.dIsN_e1, DL.isNon_e1, ↓DL.dInS_e1, ↓DL.dIn_e1, ↓DL.dIn_e2, ↓DL.dIn_e3, ↓DL.dIn_e4, ↓DL.dIn_e5, ↓DL.dIn_e6, ↓DL.dInK_e1, ↓DL.dIx_e1, ↓DL.dIx_e2, ↓DL.dIx_e3, ↓DL.dIx_e4, ↓DL.dIx_e5, ↓DL.dIx_e6, ↓DL.kBl_e1, ↓DL.kInt_e1, ↓DL.kTru_e1, ↓DL.kTru_e2, ↓DL.kTru_e3, ↓DL.kTru_e4, ↓DL.kTru_e5, ↓DL.kTru_e6, ↓DL.kTru_e7, ↓DL.kTru_e8, ↓DL.kTru_e9, ↓DL.kRef_e1, ↓DL.kLst_e1, ↓DL.kLst_e2, ↓DL.kTup_e1, ↓DL.kTup_e2, ↓DL.kStr_e1, ↓DL.kRng1_e1, ↓DL.kRng2_e1, ↓DL.kEnum_e1, ↓DL.kEnum_e2, ↓DL.kZip_e1, ↓DL.frzC_e1, ↓DL.frzC_e2, ↓DL.frzC_e3, ↓DL.dSlR_e1, ↓DL.dSlR_e2, ↓DL.dSlR_e3, ↓DL.dSlR_e4, ↓DL.dSlR_e5, ↓DL.dLen_e1, ↓DL.dLen_e2, ↓DL.dLen_e3, ↓DL.dLen_e4, ↓DL.dLen_e5, ↓DL.dLen_e6, ↓DL.dInt_e1, ↓DL.dInt_e2, ↓DL.dInt_e3, ↓DL.dStrI_e1, ↓DL.dIsi_e1, DL.tyName_e1, DL.tyName_e2, DL.tyName_e3, DL.tyName_e4, DL.tyName_e5, DL.tyName_e6, DL.tyName_e7, DL.tyName_e8, DL.tyName_e9, DL.tyName_e10, ↓DL.dApp_e1, ↓DL.dJoin_e1, ↓DL.dSplit_e1, ↓DL.dgNil_e1, ↓DL.dgCons_e1, ↓DL.dgTup_e1, ↓DL.dSetL_e1, ↓DL.dSetD_e1, ↓DL.dSetD_e2, ↓DL.dSetD_e3, ↓DL.dIAdd_e1, ↓DL.dIAdd_e2, ↓DL.dISub_e1, ↓DL.apart_e1, ↓DL.dUpd_e1, ↓DL.dMulS_e1, ↓DL.dInL_e1, ↓DL.endLc_e1, ↓DL.endLc_e2, DL.bindN_e1, DL.setAll_e1, DL.setAll_e2, DL.mTy_e1, DL.mTy_e2, DL.mTy_e3, DL.mTy_e4, DL.strsOf_e1, DL.strsOf_e2, DL.keyD_e1, DL.keyD_e2, DL.keysD_e1, DL.keysD_e2, ↓DL.forW_e1, ↓DL.forW_e2, ↓DL.lcW_e1, ↓DL.lcW_e2, ↓DL.lcG_e1, ↓DL.lcG_e2, ↓DL.lc2W_e1, ↓DL.lc2W_e2, ↓DL.dPairs_e1, ↓DL.dPairs_e2, DL.kvsOf_e1, DL.kvsOf_e2, DL.slot_e1, DL.slot_e2, DL.dwipe_e1, DL.dwipe_e2, DL.enumD_e1, DL.enumD_e2, DL.zipD_e1, DL.dstart_e1, DL.dstart_e2, DL.dstart_e3, DL.flatD_e1, DL.flatD_e2, DL.flatD_e3, DL.flatD_e4, DL.eqF_e1, DL.eqF_e2, DL.eqF_e3, DL.eqF_e4, DL.eqF_e5, DL.eqF_e6, ↓DL.dTupOf_e1, ↓DL.dTupOf_e2, ↓DL.dTupOf_e3, ↓DL.dListOf_e1, ↓DL.dMin2_e1, ↓DL.dExt_e1, ↓DL.dMulL_e1, ↓DL.dIsD_e1, ↓DL.dIsD_e2, ↓DL.dIsD_e3, ↓DL.dSortD_e1, ↓DL.kStr1_e1, DL.klook_e1, ↓DL.dVar_n0, ↓DL.dgName_n0, ↓DL.obind_n0, ↓DL.oslot_n0, ↓DL.dVar_n1, ↓DL.dgName_n1, ↓DL.obind_n1, ↓DL.oslot_n1, ↓DL.dVar_n2, ↓DL.dgName_n2, ↓DL.obind_n2, ↓DL.oslot_n2, ↓DL.dVar_n3, ↓DL.dgName_n3, ↓DL.obind_n3, ↓DL.oslot_n3, ↓DL.dVar_n4, ↓DL.dgName_n4, ↓DL.obind_n4, ↓DL.oslot_n4, ↓DL.dVar_n5, ↓DL.dgName_n5, ↓DL.obind_n5, ↓DL.oslot_n5, ↓DL.dVar_n6, ↓DL.dgName_n6, ↓DL.obind_n6, ↓DL.oslot_n6, ↓DL.dVar_n7, ↓DL.dgName_n7, ↓DL.obind_n7, ↓DL.oslot_n7, ↓DL.dVar_n8, ↓DL.dgName_n8, ↓DL.obind_n8, ↓DL.oslot_n8, ↓DL.dVar_n9, ↓DL.dgName_n9, ↓DL.obind_n9, ↓DL.oslot_n9, ↓DL.dVar_n10, ↓DL.dgName_n10, ↓DL.obind_n10, ↓DL.oslot_n10, ↓DL.dVar_n11, ↓DL.dgName_n11, ↓DL.obind_n11, ↓DL.oslot_n11, ↓DL.dVar_n12, ↓DL.dgName_n12, ↓DL.obind_n12, ↓DL.oslot_n12, ↓DL.dVar_n13, ↓DL.dgName_n13, ↓DL.obind_n13, ↓DL.oslot_n13, ↓DL.dVar_n14, ↓DL.dgName_n14, ↓DL.obind_n14, ↓DL.oslot_n14, ↓DL.dVar_n15, ↓DL.dgName_n15, ↓DL.obind_n15, ↓DL.oslot_n15, ↓DL.dVar_n16, ↓DL.dgName_n16, ↓DL.obind_n16, ↓DL.oslot_n16, ↓DL.dVar_n17, ↓DL.dgName_n17, ↓DL.obind_n17, ↓DL.oslot_n17, ↓DL.dVar_n18, ↓DL.dgName_n18, ↓DL.obind_n18, ↓DL.oslot_n18, ↓DL.dVar_n19, ↓DL.dgName_n19, ↓DL.obind_n19, ↓DL.oslot_n19, ↓DL.dVar_n20, ↓DL.dgName_n20, ↓DL.obind_n20, ↓DL.oslot_n20, ↓DL.dVar_n21, ↓DL.dgName_n21, ↓DL.obind_n21, ↓DL.oslot_n21, ↓DL.dVar_n22, ↓DL.dgName_n22, ↓DL.obind_n22, ↓DL.oslot_n22, ↓DL.dVar_n23, ↓DL.dgName_n23, ↓DL.obind_n23, ↓DL.oslot_n23, ↓DL.dVar_n24, ↓DL.dgName_n24, ↓DL.obind_n24, ↓DL.oslot_n24, ↓DL.dVar_n25, ↓DL.dgName_n25, ↓DL.obind_n25, ↓DL.oslot_n25, ↓DL.dVar_n26, ↓DL.dgName_n26, ↓DL.obind_n26, ↓DL.oslot_n26, ↓DL.dVar_n27, ↓DL.dgName_n27, ↓DL.obind_n27, ↓DL.oslot_n27, ↓DL.dVar_n28, ↓DL.dgName_n28, ↓DL.obind_n28, ↓DL.oslot_n28, ↓DL.dVar_n29, ↓DL.dgName_n29, ↓DL.obind_n29, ↓DL.oslot_n29, ↓DL.isiM_int, ↓DL.subTy_NoneType_int, ↓DL.subTy_bool_int, ↓DL.subTy_int_int, ↓DL.subTy_str_int, ↓DL.subTy_tuple_int, ↓DL.subTy_list_int, ↓DL.subTy_dict_int, ↓DL.isiM_str, ↓DL.subTy_NoneType_str, ↓DL.subTy_bool_str, ↓DL.subTy_int_str, ↓DL.subTy_str_str, ↓DL.subTy_tuple_str, ↓DL.subTy_list_str, ↓DL.subTy_dict_str, ↓DL.isiM_bool, ↓DL.subTy_NoneType_bool, ↓DL.subTy_bool_bool, ↓DL.subTy_int_bool, ↓DL.subTy_str_bool, ↓DL.subTy_tuple_bool, ↓DL.subTy_list_bool, ↓DL.subTy_dict_bool, ↓DL.isiM_list, ↓DL.subTy_NoneType_list, ↓DL.subTy_bool_list, ↓DL.subTy_int_list, ↓DL.subTy_str_list, ↓DL.subTy_tuple_list, ↓DL.subTy_list_list, ↓DL.subTy_dict_list, ↓DL.isiM_tuple, ↓DL.subTy_NoneType_tuple, ↓DL.subTy_bool_tuple, ↓DL.subTy_int_tuple, ↓DL.subTy_str_tuple, ↓DL.subTy_tuple_tuple, ↓DL.subTy_list_tuple, ↓DL.subTy_dict_tuple, ↓DL.isiM_dict, ↓DL.subTy_NoneType_dict, ↓DL.subTy_bool_dict, ↓DL.subTy_int_dict, ↓DL.subTy_str_dict, ↓DL.subTy_tuple_dict, ↓DL.subTy_list_dict, ↓DL.subTy_dict_dict, ↓DL.isNon_tup, ↓DL.isNon_lst, ↓DL.isNon_stup, ↓DL.isNon_slst, ↓DL.isNon_str, ↓DL.isNon_int, ↓DL.isNon_bl, ↓DL.isNon_ref, ↓DL.isNon_dK, ↓DL.isNon_dT, W1.lu_texts, W1.sc_len, DL.dLeS, W1.mh_need, W1.mh_lay, W1.mh_edit, W1.mh_drop, W1.mh_text, W1.mh_all_files, DL.kBl_e, DL.dChain, ↓W1.dLenD_e1, DL.dClear, DL.dListF_e1, ↓DL.dSortS_e1, ↓DL.dSortO_e1, ↓DL.dPop_e1, ↓DL.dPop_e2, DL.dRaiseP, DL.dListOf, $[$ts:term],*]); (repeat ((with_reducible refine DL.seq_r (fun R hR => ?_)); simp only [DL.dFz, ↓DL.onL_e1, DL.dTold, DL.dMethX, DL.dMakeX, DL.dForK, DL.dLcV, ↓DL.dMax2_e1, ↓DL.dMaxL_e1, DL.keyV_str, DL.cutD_tail, eq_self, Int.reduceEq, List.nil_append, List.cons_append, DL.ofs_eq, String.reduceEq, DL.inD_cons, DL.inD_nil, Bool.or_false, Bool.or_true, Bool.false_or, Bool.true_or, decide_true, decide_false, not_true_eq_false, not_false_eq_true, DL.dPar, ↓DL.kPar_e1, DL.dPar3, ↓DL.kPar3_e1, DL.dGet1, DL.dGet2, DL.dKGet2, DL.dAsg, DL.dVar, DL.dgName, DL.dgLst, DL.dgSub, List.length_cons, List.length_nil, List.set_cons_zero, List.set_cons_succ, DL.dAnd, DL.dOr, DL.dNot, DL.dTest, DL.dTrue, DL.dOp, DL.dCB, DL.dACons, DL.dANil, DL.dInQ, DL.dIxQ, DL.dAug, DL.dC, DL.dRet, DL.dRetF, DL.dRetN, DL.dSl, DL.dPart, DL.dNoPart, DL.dIf, DL.dIfS, DL.dTup, DL.dLstF, DL.dLstO, DL.dDrop, DL.dNever, DL.dNext, DL.dBreak, DL.dCont, DL.dFor, DL.dILst, DL.dITup, DL.dIStr, DL.dIRng1, DL.dIRng2, DL.dIEnum, DL.dIZip, DL.dBM, DL.dBM0, DL.dCall, DL.dFld, DL.dSFld, DL.dSFldI, DL.dMeth, DL.dMake, DL.dRaise, DL.dXf, DL.dEqL, ↓DL.dStrip_e1, ↓DL.onX_e1, DL.dCallX, ↓DL.onI_e1, DL.dAddO, DL.dMulO, ↓DL.kMulO_e1, DL.dLcO, DL.dAndV, DL.dOrV, DL.dNotV, DL.dNeg, DL.dDix, DL.dDin, DL.dDisp, DL.dDispF, DL.dDNew, DL.dLc, DL.dLc2, DL.bind1, DL.dYes, DL.dFrz, List.map_cons, List.map_nil, List.getElem?_cons_succ, List.getElem?_cons_zero, DL.atI_0, DL.atI_1, DL.atI_2, DL.atI_3, DL.atI_4, DL.atI_5, DL.atI_6, DL.atI_7, DL.ixN_0, DL.ixN_1, DL.ixN_2, DL.ixN_3, DL.oset_same, DL.oset_oset, DL.tl_one, DL.tl_ofL, TL.len_tl, DL.atI_nat_, Bool.false_eq_true, Bool.true_eq_false, Bool.not_false, Bool.not_true, if_true, if_false, decide_eq_true_eq, Bool.not_eq_true', Bool.not_eq_true, decide_eq_false_iff_not, Option.isSome_some, Option.isSome_none, List.all_cons, List.all_nil, Bool.and_self, Bool.true_and, Bool.and_true, ↓reduceIte, and_true, true_and, Nat.zero_add, Nat.reduceAdd, Nat.reduceLeDiff, ↓DL.onSome_e1, ↓DL.onL_e1, ↓DL.lstQ_e1, ↓DL.lstQ_e2, ↓DL.seqQ_e1, ↓DL.seqQ_e2, ↓DL.seqQ_e3, ↓DL.seqQ_e4, ↓DL.seqQ_e5, ↓DL.sqlQ_e1, ↓DL.sqlQ_e2, ↓DL.sqlQ_e3, ↓DL.onK_e1, ↓DL.onT_e1, ↓DL.dkQ_e1, ↓DL.dkQ_e2, ↓DL.dtQ_e1, ↓DL.dtQ_e2, ↓DL.findQ_e1, ↓DL.findQ_e2, ↓DL.findQ_e3, ↓DL.dAdd_e1, ↓DL.dAdd_e2, ↓DL.dAdd_e3, ↓DL.dAdd_e4, ↓DL.dAdd_e5, ↓DL.dAdd_e6, ↓DL.dAdd_e7, ↓DL.dI2_e1, ↓DL.dSub_e1, ↓DL.dCmpI_e1, ↓DL.dEq_e1, ↓DL.dEq_e2, ↓DL.dEq_e3, ↓DL.dEq_e4, ↓DL.dEq_e5, ↓DL.dEq_e6, ↓DL.dEq_e7, ↓DL.dEq_e8, ↓DL.dEq_e9, ↓DL.dEq_e10, ↓DL.dEq_e11, ↓DL.dEq_e12, ↓DL.dEq_e13, ↓DL.dEq_e14, ↓DL.dEq_e15, ↓DL.dIsN_e1, DL.isNon_e1, ↓DL.dInS_e1, ↓DL.dIn_e1, ↓DL.dIn_e2, ↓DL.dIn_e3, ↓DL.dIn_e4, ↓DL.dIn_e5, ↓DL.dIn_e6, ↓DL.dInK_e1, ↓DL.dIx_e1, ↓DL.dIx_e2, ↓DL.dIx_e3, ↓DL.dIx_e4, ↓DL.dIx_e5, ↓DL.dIx_e6, ↓DL.kBl_e1, ↓DL.kInt_e1, ↓DL.kTru_e1, ↓DL.kTru_e2, ↓DL.kTru_e3, ↓DL.kTru_e4, ↓DL.kTru_e5, ↓DL.kTru_e6, ↓DL.kTru_e7, ↓DL.kTru_e8, ↓DL.kTru_e9, ↓DL.kRef_e1, ↓DL.kLst_e1, ↓DL.kLst_e2, ↓DL.kTup_e1, ↓DL.kTup_e2, ↓DL.kStr_e1, ↓DL.kRng1_e1, ↓DL.kRng2_e1, ↓DL.kEnum_e1, ↓DL.kEnum_e2, ↓DL.kZip_e1, ↓DL.frzC_e1, ↓DL.frzC_e2, ↓DL.frzC_e3, ↓DL.dSlR_e1, ↓DL.dSlR_e2, ↓DL.dSlR_e3, ↓DL.dSlR_e4, ↓DL.dSlR_e5, ↓DL.dLen_e1, ↓DL.dLen_e2, ↓DL.dLen_e3, ↓DL.dLen_e4, ↓DL.dLen_e5, ↓DL.dLen_e6, ↓DL.dInt_e1, ↓DL.dInt_e2, ↓DL.dInt_e3, ↓DL.dStrI_e1, ↓DL.dIsi_e1, DL.tyName_e1, DL.tyName_e2, DL.tyName_e3, DL.tyName_e4, DL.tyName_e5, DL.tyName_e6, DL.tyName_e7, DL.tyName_e8, DL.tyName_e9, DL.tyName_e10, ↓DL.dApp_e1, ↓DL.dJoin_e1, ↓DL.dSplit_e1, ↓DL.dgNil_e1, ↓DL.dgCons_e1, ↓DL.dgTup_e1, ↓DL.dSetL_e1, ↓DL.dSetD_e1, ↓DL.dSetD_e2, ↓DL.dSetD_e3, ↓DL.dIAdd_e1, ↓DL.dIAdd_e2, ↓DL.dISub_e1, ↓DL.apart_e1, ↓DL.dUpd_e1, ↓DL.dMulS_e1, ↓DL.dInL_e1, ↓DL.endLc_e1, ↓DL.endLc_e2, DL.bindN_e1, DL.setAll_e1, DL.setAll_e2, DL.mTy_e1, DL.mTy_e2, DL.mTy_e3, DL.mTy_e4, DL.strsOf_e1, DL.strsOf_e2, DL.keyD_e1, DL.keyD_e2, DL.keysD_e1, DL.keysD_e2, ↓DL.forW_e1, ↓DL.forW_e2, ↓DL.lcW_e1, ↓DL.lcW_e2, ↓DL.lcG_e1, ↓DL.lcG_e2, ↓DL.lc2W_e1, ↓DL.lc2W_e2, ↓DL.dPairs_e1, ↓DL.dPairs_e2, DL.kvsOf_e1, DL.kvsOf_e2, DL.slot_e1, DL.slot_e2, DL.dwipe_e1, DL.dwipe_e2, DL.enumD_e1, DL.enumD_e2, DL.zipD_e1, DL.dstart_e1, DL.dstart_e2, DL.dstart_e3, DL.flatD_e1, DL.flatD_e2, DL.flatD_e3, DL.flatD_e4, DL.eqF_e1, DL.eqF_e2, DL.eqF_e3, DL.eqF_e4, DL.eqF_e5, DL.eqF_e6, ↓DL.dTupOf_e1, ↓DL.dTupOf_e2, ↓DL.dTupOf_e3, ↓DL.dListOf_e1, ↓DL.dMin2_e1, ↓DL.dExt_e1, ↓DL.dMulL_e1, ↓DL.dIsD_e1, ↓DL.dIsD_e2, ↓DL.dIsD_e3, ↓DL.dSortD_e1, ↓DL.kStr1_e1, DL.klook_e1, ↓DL.dVar_n0, ↓DL.dgName_n0, ↓DL.obind_n0, ↓DL.oslot_n0, ↓DL.dVar_n1, ↓DL.dgName_n1, ↓DL.obind_n1, ↓DL.oslot_n1, ↓DL.dVar_n2, ↓DL.dgName_n2, ↓DL.obind_n2, ↓DL.oslot_n2, ↓DL.dVar_n3, ↓DL.dgName_n3, ↓DL.obind_n3, ↓DL.oslot_n3, ↓DL.dVar_n4, ↓DL.dgName_n4, ↓DL.obind_n4, ↓DL.oslot_n4, ↓DL.dVar_n5, ↓DL.dgName_n5, ↓DL.obind_n5, ↓DL.oslot_n5, ↓DL.dVar_n6, ↓DL.dgName_n6, ↓DL.obind_n6, ↓DL.oslot_n6, ↓DL.dVar_n7, ↓DL.dgName_n7, ↓DL.obind_n7, ↓DL.oslot_n7, ↓DL.dVar_n8, ↓DL.dgName_n8, ↓DL.obind_n8, ↓DL.oslot_n8, ↓DL.dVar_n9, ↓DL.dgName_n9, ↓DL.obind_n9, ↓DL.oslot_n9, ↓DL.dVar_n10, ↓DL.dgName_n10, ↓DL.obind_n10, ↓DL.oslot_n10, ↓DL.dVar_n11, ↓DL.dgName_n11, ↓DL.obind_n11, ↓DL.oslot_n11, ↓DL.dVar_n12, ↓DL.dgName_n12, ↓DL.obind_n12, ↓DL.oslot_n12, ↓DL.dVar_n13, ↓DL.dgName_n13, ↓DL.obind_n13, ↓DL.oslot_n13, ↓DL.dVar_n14, ↓DL.dgName_n14, ↓DL.obind_n14, ↓DL.oslot_n14, ↓DL.dVar_n15, ↓DL.dgName_n15, ↓DL.obind_n15, ↓DL.oslot_n15, ↓DL.dVar_n16, ↓DL.dgName_n16, ↓DL.obind_n16, ↓DL.oslot_n16, ↓DL.dVar_n17, ↓DL.dgName_n17, ↓DL.obind_n17, ↓DL.oslot_n17, ↓DL.dVar_n18, ↓DL.dgName_n18, ↓DL.obind_n18, ↓DL.oslot_n18, ↓DL.dVar_n19, ↓DL.dgName_n19, ↓DL.obind_n19, ↓DL.oslot_n19, ↓DL.dVar_n20, ↓DL.dgName_n20, ↓DL.obind_n20, ↓DL.oslot_n20, ↓DL.dVar_n21, ↓DL.dgName_n21, ↓DL.obind_n21, ↓DL.oslot_n21, ↓DL.dVar_n22, ↓DL.dgName_n22, ↓DL.obind_n22, ↓DL.oslot_n22, ↓DL.dVar_n23, ↓DL.dgName_n23, ↓DL.obind_n23, ↓DL.oslot_n23, ↓DL.dVar_n24, ↓DL.dgName_n24, ↓DL.obind_n24, ↓DL.oslot_n24, ↓DL.dVar_n25, ↓DL.dgName_n25, ↓DL.obind_n25, ↓DL.oslot_n25, ↓DL.dVar_n26, ↓DL.dgName_n26, ↓DL.obind_n26, ↓DL.oslot_n26, ↓DL.dVar_n27, ↓DL.dgName_n27, ↓DL.obind_n27, ↓DL.oslot_n27, ↓DL.dVar_n28, ↓DL.dgName_n28, ↓DL.obind_n28, ↓DL.oslot_n28, ↓DL.dVar_n29, ↓DL.dgName_n29, ↓DL.obind_n29, ↓DL.oslot_n29, ↓DL.isiM_int, ↓DL.subTy_NoneType_int, ↓DL.subTy_bool_int, ↓DL.subTy_int_int, ↓DL.subTy_str_int, ↓DL.subTy_tuple_int, ↓DL.subTy_list_int, ↓DL.subTy_dict_int, ↓DL.isiM_str, ↓DL.subTy_NoneType_str, ↓DL.subTy_bool_str, ↓DL.subTy_int_str, ↓DL.subTy_str_str, ↓DL.subTy_tuple_str, ↓DL.subTy_list_str, ↓DL.subTy_dict_str, ↓DL.isiM_bool, ↓DL.subTy_NoneType_bool, ↓DL.subTy_bool_bool, ↓DL.subTy_int_bool, ↓DL.subTy_str_bool, ↓DL.subTy_tuple_bool, ↓DL.subTy_list_bool, ↓DL.subTy_dict_bool, ↓DL.isiM_list, ↓DL.subTy_NoneType_list, ↓DL.subTy_bool_list, ↓DL.subTy_int_list, ↓DL.subTy_str_list, ↓DL.subTy_tuple_list, ↓DL.subTy_list_list, ↓DL.subTy_dict_list, ↓DL.isiM_tuple, ↓DL.subTy_NoneType_tuple, ↓DL.subTy_bool_tuple, ↓DL.subTy_int_tuple, ↓DL.subTy_str_tuple, ↓DL.subTy_tuple_tuple, ↓DL.subTy_list_tuple, ↓DL.subTy_dict_tuple, ↓DL.isiM_dict, ↓DL.subTy_NoneType_dict, ↓DL.subTy_bool_dict, ↓DL.subTy_int_dict, ↓DL.subTy_str_dict, ↓DL.subTy_tuple_dict, ↓DL.subTy_list_dict, ↓DL.subTy_dict_dict, ↓DL.isNon_tup, ↓DL.isNon_lst, ↓DL.isNon_stup, ↓DL.isNon_slst, ↓DL.isNon_str, ↓DL.isNon_int, ↓DL.isNon_bl, ↓DL.isNon_ref, ↓DL.isNon_dK, ↓DL.isNon_dT, W1.lu_texts, W1.sc_len, DL.dLeS, W1.mh_need, W1.mh_lay, W1.mh_edit, W1.mh_drop, W1.mh_text, W1.mh_all_files, DL.kBl_e, DL.dChain, ↓W1.dLenD_e1, DL.dClear, DL.dListF_e1, ↓DL.dSortS_e1, ↓DL.dSortO_e1, ↓DL.dPop_e1, ↓DL.dPop_e2, DL.dRaiseP, DL.dListOf, $[$ts:term],*]; subst hR)); (try simp only [DL.dFz, ↓DL.onL_e1, DL.dTold, DL.dMethX, DL.dMakeX, DL.dForK, DL.dLcV, ↓DL.dMax2_e1, ↓DL.dMaxL_e1, DL.keyV_str, DL.cutD_tail, eq_self, Int.reduceEq, List.nil_append, List.cons_append, DL.ofs_eq, String.reduceEq, DL.inD_cons, DL.inD_nil, Bool.or_false, Bool.or_true, Bool.false_or, Bool.true_or, decide_true, decide_false, not_true_eq_false, not_false_eq_true, DL.dPar, ↓DL.kPar_e1, DL.dPar3, ↓DL.kPar3_e1, DL.dGet1, DL.dGet2, DL.dKGet2, DL.dAsg, DL.dVar, DL.dgName, DL.dgLst, DL.dgSub, List.length_cons, List.length_nil, List.set_cons_zero, List.set_cons_succ, DL.dAnd, DL.dOr, DL.dNot, DL.dTest, DL.dTrue, DL.dOp, DL.dCB, DL.dACons, DL.dANil, DL.dInQ, DL.dIxQ, DL.dAug, DL.dC, DL.dRet, DL.dRetF, DL.dRetN, DL.dSl, DL.dPart, DL.dNoPart, DL.dIf, DL.dIfS, DL.dTup, DL.dLstF, DL.dLstO, DL.dDrop, DL.dNever, DL.dNext, DL.dBreak, DL.dCont, DL.dFor, DL.dILst, DL.dITup, DL.dIStr, DL.dIRng1, DL.dIRng2, DL.dIEnum, DL.dIZip, DL.dBM, DL.dBM0, DL.dCall, DL.dFld, DL.dSFld, DL.dSFldI, DL.dMeth, DL.dMake, DL.dRaise, DL.dXf, DL.dEqL, ↓DL.dStrip_e1, ↓DL.onX_e1, DL.dCallX, ↓DL.onI_e1, DL.dAddO, DL.dMulO, ↓DL.kMulO_e1, DL.dLcO, DL.dAndV, DL.dOrV, DL.dNotV, DL.dNeg, DL.dDix, DL.dDin, DL.dDisp, DL.dDispF, DL.dDNew, DL.dLc, DL.dLc2, DL.bind1, DL.dYes, DL.dFrz, List.map_cons, List.map_nil, List.getElem?_cons_succ, List.getElem?_cons_zero, DL.atI_0, DL.atI_1, DL.atI_2, DL.atI_3, DL.atI_4, DL.atI_5, DL.atI_6, DL.atI_7, DL.ixN_0, DL.ixN_1, DL.ixN_2, DL.ixN_3, DL.oset_same, DL.oset_oset, DL.tl_one, DL.tl_ofL, TL.len_tl, DL.atI_nat_, Bool.false_eq_true, Bool.true_eq_false, Bool.not_false, Bool.not_true, if_true, if_false, decide_eq_true_eq, Bool.not_eq_true', Bool.not_eq_true, decide_eq_false_iff_not, Option.isSome_some, Option.isSome_none, List.all_cons, List.all_nil, Bool.and_self, Bool.true_and, Bool.and_true, ↓reduceIte, and_true, true_and, Nat.zero_add, Nat.reduceAdd, Nat.reduceLeDiff, ↓DL.onSome_e1, ↓DL.onL_e1, ↓DL.lstQ_e1, ↓DL.lstQ_e2, ↓DL.seqQ_e1, ↓DL.seqQ_e2, ↓DL.seqQ_e3, ↓DL.seqQ_e4, ↓DL.seqQ_e5, ↓DL.sqlQ_e1, ↓DL.sqlQ_e2, ↓DL.sqlQ_e3, ↓DL.onK_e1, ↓DL.onT_e1, ↓DL.dkQ_e1, ↓DL.dkQ_e2, ↓DL.dtQ_e1, ↓DL.dtQ_e2, ↓DL.findQ_e1, ↓DL.findQ_e2, ↓DL.findQ_e3, ↓DL.dAdd_e1, ↓DL.dAdd_e2, ↓DL.dAdd_e3, ↓DL.dAdd_e4, ↓DL.dAdd_e5, ↓DL.dAdd_e6, ↓DL.dAdd_e7, ↓DL.dI2_e1, ↓DL.dSub_e1, ↓DL.dCmpI_e1, ↓DL.dEq_e1, ↓DL.dEq_e2, ↓DL.dEq_e3, ↓DL.dEq_e4, ↓DL.dEq_e5, ↓DL.dEq_e6, ↓DL.dEq_e7, ↓DL.dEq_e8, ↓DL.dEq_e9, ↓DL.dEq_e10, ↓DL.dEq_e11, ↓DL.dEq_e12, ↓DL.dEq_e13, ↓DL.dEq_e14, ↓DL.dEq_e15, ↓DL.dIsN_e1, DL.isNon_e1, ↓DL.dInS_e1, ↓DL.dIn_e1, ↓DL.dIn_e2, ↓DL.dIn_e3, ↓DL.dIn_e4, ↓DL.dIn_e5, ↓DL.dIn_e6, ↓DL.dInK_e1, ↓DL.dIx_e1, ↓DL.dIx_e2, ↓DL.dIx_e3, ↓DL.dIx_e4, ↓DL.dIx_e5, ↓DL.dIx_e6, ↓DL.kBl_e1, ↓DL.kInt_e1, ↓DL.kTru_e1, ↓DL.kTru_e2, ↓DL.kTru_e3, ↓DL.kTru_e4, ↓DL.kTru_e5, ↓DL.kTru_e6, ↓DL.kTru_e7, ↓DL.kTru_e8, ↓DL.kTru_e9, ↓DL.kRef_e1, ↓DL.kLst_e1, ↓DL.kLst_e2, ↓DL.kTup_e1, ↓DL.kTup_e2, ↓DL.kStr_e1, ↓DL.kRng1_e1, ↓DL.kRng2_e1, ↓DL.kEnum_e1, ↓DL.kEnum_e2, ↓DL.kZip_e1, ↓DL.frzC_e1, ↓DL.frzC_e2, ↓DL.frzC_e3, ↓DL.dSlR_e1, ↓DL.dSlR_e2, ↓DL.dSlR_e3, ↓DL.dSlR_e4, ↓DL.dSlR_e5, ↓DL.dLen_e1, ↓DL.dLen_e2, ↓DL.dLen_e3, ↓DL.dLen_e4, ↓DL.dLen_e5, ↓DL.dLen_e6, ↓DL.dInt_e1, ↓DL.dInt_e2, ↓DL.dInt_e3, ↓DL.dStrI_e1, ↓DL.dIsi_e1, DL.tyName_e1, DL.tyName_e2, DL.tyName_e3, DL.tyName_e4, DL.tyName_e5, DL.tyName_e6, DL.tyName_e7, DL.tyName_e8, DL.tyName_e9, DL.tyName_e10, ↓DL.dApp_e1, ↓DL.dJoin_e1, ↓DL.dSplit_e1, ↓DL.dgNil_e1, ↓DL.dgCons_e1, ↓DL.dgTup_e1, ↓DL.dSetL_e1, ↓DL.dSetD_e1, ↓DL.dSetD_e2, ↓DL.dSetD_e3, ↓DL.dIAdd_e1, ↓DL.dIAdd_e2, ↓DL.dISub_e1, ↓DL.apart_e1, ↓DL.dUpd_e1, ↓DL.dMulS_e1, ↓DL.dInL_e1, ↓DL.endLc_e1, ↓DL.endLc_e2, DL.bindN_e1, DL.setAll_e1, DL.setAll_e2, DL.mTy_e1, DL.mTy_e2, DL.mTy_e3, DL.mTy_e4, DL.strsOf_e1, DL.strsOf_e2, DL.keyD_e1, DL.keyD_e2, DL.keysD_e1, DL.keysD_e2, ↓DL.forW_e1, ↓DL.forW_e2, ↓DL.lcW_e1, ↓DL.lcW_e2, ↓DL.lcG_e1, ↓DL.lcG_e2, ↓DL.lc2W_e1, ↓DL.lc2W_e2, ↓DL.dPairs_e1, ↓DL.dPairs_e2, DL.kvsOf_e1, DL.kvsOf_e2, DL.slot_e1, DL.slot_e2, DL.dwipe_e1, DL.dwipe_e2, DL.enumD_e1, DL.enumD_e2, DL.zipD_e1, DL.dstart_e1, DL.dstart_e2, DL.dstart_e3, DL.flatD_e1, DL.flatD_e2, DL.flatD_e3, DL.flatD_e4, DL.eqF_e1, DL.eqF_e2, DL.eqF_e3, DL.eqF_e4, DL.eqF_e5, DL.eqF_e6, ↓DL.dTupOf_e1, ↓DL.dTupOf_e2, ↓DL.dTupOf_e3, ↓DL.dListOf_e1, ↓DL.dMin2_e1, ↓DL.dExt_e1, ↓DL.dMulL_e1, ↓DL.dIsD_e1, ↓DL.dIsD_e2, ↓DL.dIsD_e3, ↓DL.dSortD_e1, ↓DL.kStr1_e1, DL.klook_e1, ↓DL.dVar_n0, ↓DL.dgName_n0, ↓DL.obind_n0, ↓DL.oslot_n0, ↓DL.dVar_n1, ↓DL.dgName_n1, ↓DL.obind_n1, ↓DL.oslot_n1, ↓DL.dVar_n2, ↓DL.dgName_n2, ↓DL.obind_n2, ↓DL.oslot_n2, ↓DL.dVar_n3, ↓DL.dgName_n3, ↓DL.obind_n3, ↓DL.oslot_n3, ↓DL.dVar_n4, ↓DL.dgName_n4, ↓DL.obind_n4, ↓DL.oslot_n4, ↓DL.dVar_n5, ↓DL.dgName_n5, ↓DL.obind_n5, ↓DL.oslot_n5, ↓DL.dVar_n6, ↓DL.dgName_n6, ↓DL.obind_n6, ↓DL.oslot_n6, ↓DL.dVar_n7, ↓DL.dgName_n7, ↓DL.obind_n7, ↓DL.oslot_n7, ↓DL.dVar_n8, ↓DL.dgName_n8, ↓DL.obind_n8, ↓DL.oslot_n8, ↓DL.dVar_n9, ↓DL.dgName_n9, ↓DL.obind_n9, ↓DL.oslot_n9, ↓DL.dVar_n10, ↓DL.dgName_n10, ↓DL.obind_n10, ↓DL.oslot_n10, ↓DL.dVar_n11, ↓DL.dgName_n11, ↓DL.obind_n11, ↓DL.oslot_n11, ↓DL.dVar_n12, ↓DL.dgName_n12, ↓DL.obind_n12, ↓DL.oslot_n12, ↓DL.dVar_n13, ↓DL.dgName_n13, ↓DL.obind_n13, ↓DL.oslot_n13, ↓DL.dVar_n14, ↓DL.dgName_n14, ↓DL.obind_n14, ↓DL.oslot_n14, ↓DL.dVar_n15, ↓DL.dgName_n15, ↓DL.obind_n15, ↓DL.oslot_n15, ↓DL.dVar_n16, ↓DL.dgName_n16, ↓DL.obind_n16, ↓DL.oslot_n16, ↓DL.dVar_n17, ↓DL.dgName_n17, ↓DL.obind_n17, ↓DL.oslot_n17, ↓DL.dVar_n18, ↓DL.dgName_n18, ↓DL.obind_n18, ↓DL.oslot_n18, ↓DL.dVar_n19, ↓DL.dgName_n19, ↓DL.obind_n19, ↓DL.oslot_n19, ↓DL.dVar_n20, ↓DL.dgName_n20, ↓DL.obind_n20, ↓DL.oslot_n20, ↓DL.dVar_n21, ↓DL.dgName_n21, ↓DL.obind_n21, ↓DL.oslot_n21, ↓DL.dVar_n22, ↓DL.dgName_n22, ↓DL.obind_n22, ↓DL.oslot_n22, ↓DL.dVar_n23, ↓DL.dgName_n23, ↓DL.obind_n23, ↓DL.oslot_n23, ↓DL.dVar_n24, ↓DL.dgName_n24, ↓DL.obind_n24, ↓DL.oslot_n24, ↓DL.dVar_n25, ↓DL.dgName_n25, ↓DL.obind_n25, ↓DL.oslot_n25, ↓DL.dVar_n26, ↓DL.dgName_n26, ↓DL.obind_n26, ↓DL.oslot_n26, ↓DL.dVar_n27, ↓DL.dgName_n27, ↓DL.obind_n27, ↓DL.oslot_n27, ↓DL.dVar_n28, ↓DL.dgName_n28, ↓DL.obind_n28, ↓DL.oslot_n28, ↓DL.dVar_n29, ↓DL.dgName_n29, ↓DL.obind_n29, ↓DL.oslot_n29, ↓DL.isiM_int, ↓DL.subTy_NoneType_int, ↓DL.subTy_bool_int, ↓DL.subTy_int_int, ↓DL.subTy_str_int, ↓DL.subTy_tuple_int, ↓DL.subTy_list_int, ↓DL.subTy_dict_int, ↓DL.isiM_str, ↓DL.subTy_NoneType_str, ↓DL.subTy_bool_str, ↓DL.subTy_int_str, ↓DL.subTy_str_str, ↓DL.subTy_tuple_str, ↓DL.subTy_list_str, ↓DL.subTy_dict_str, ↓DL.isiM_bool, ↓DL.subTy_NoneType_bool, ↓DL.subTy_bool_bool, ↓DL.subTy_int_bool, ↓DL.subTy_str_bool, ↓DL.subTy_tuple_bool, ↓DL.subTy_list_bool, ↓DL.subTy_dict_bool, ↓DL.isiM_list, ↓DL.subTy_NoneType_list, ↓DL.subTy_bool_list, ↓DL.subTy_int_list, ↓DL.subTy_str_list, ↓DL.subTy_tuple_list, ↓DL.subTy_list_list, ↓DL.subTy_dict_list, ↓DL.isiM_tuple, ↓DL.subTy_NoneType_tuple, ↓DL.subTy_bool_tuple, ↓DL.subTy_int_tuple, ↓DL.subTy_str_tuple, ↓DL.subTy_tuple_tuple, ↓DL.subTy_list_tuple, ↓DL.subTy_dict_tuple, ↓DL.isiM_dict, ↓DL.subTy_NoneType_dict, ↓DL.subTy_bool_dict, ↓DL.subTy_int_dict, ↓DL.subTy_str_dict, ↓DL.subTy_tuple_dict, ↓DL.subTy_list_dict, ↓DL.subTy_dict_dict, ↓DL.isNon_tup, ↓DL.isNon_lst, ↓DL.isNon_stup, ↓DL.isNon_slst, ↓DL.isNon_str, ↓DL.isNon_int, ↓DL.isNon_bl, ↓DL.isNon_ref, ↓DL.isNon_dK, ↓DL.isNon_dT, W1.lu_texts, W1.sc_len, DL.dLeS, W1.mh_need, W1.mh_lay, W1.mh_edit, W1.mh_drop, W1.mh_text, W1.mh_all_files, DL.kBl_e, DL.dChain, ↓W1.dLenD_e1, DL.dClear, DL.dListF_e1, ↓DL.dSortS_e1, ↓DL.dSortO_e1, ↓DL.dPop_e1, ↓DL.dPop_e2, DL.dRaiseP, DL.dListOf, $[$ts:term],*]); (repeat ((with_reducible refine And.intro ?_ ?_); (walk_at "sz"); (try simp only [DL.dFz, ↓DL.onL_e1, DL.dTold, DL.dMethX, DL.dMakeX, DL.dForK, DL.dLcV, ↓DL.dMax2_e1, ↓DL.dMaxL_e1, DL.keyV_str, DL.cutD_tail, eq_self, Int.reduceEq, List.nil_append, List.cons_append, DL.ofs_eq, String.reduceEq, DL.inD_cons, DL.inD_nil, Bool.or_false, Bool.or_true, Bool.false_or, Bool.true_or, decide_true, decide_false, not_true_eq_false, not_false_eq_true, DL.dPar, ↓DL.kPar_e1, DL.dPar3, ↓DL.kPar3_e1, DL.dGet1, DL.dGet2, DL.dKGet2, DL.dAsg, DL.dVar, DL.dgName, DL.dgLst, DL.dgSub, List.length_cons, List.length_nil, List.set_cons_zero, List.set_cons_succ, DL.dAnd, DL.dOr, DL.dNot, DL.dTest, DL.dTrue, DL.dOp, DL.dCB, DL.dACons, DL.dANil, DL.dInQ, DL.dIxQ, DL.dAug, DL.dC, DL.dRet, DL.dRetF, DL.dRetN, DL.dSl, DL.dPart, DL.dNoPart, DL.dIf, DL.dIfS, DL.dTup, DL.dLstF, DL.dLstO, DL.dDrop, DL.dNever, DL.dNext, DL.dBreak, DL.dCont, DL.dFor, DL.dILst, DL.dITup, DL.dIStr, DL.dIRng1, DL.dIRng2, DL.dIEnum, DL.dIZip, DL.dBM, DL.dBM0, DL.dCall, DL.dFld, DL.dSFld, DL.dSFldI, DL.dMeth, DL.dMake, DL.dRaise, DL.dXf, DL.dEqL, ↓DL.dStrip_e1, ↓DL.onX_e1, DL.dCallX, ↓DL.onI_e1, DL.dAddO, DL.dMulO, ↓DL.kMulO_e1, DL.dLcO, DL.dAndV, DL.dOrV, DL.dNotV, DL.dNeg, DL.dDix, DL.dDin, DL.dDisp, DL.dDispF, DL.dDNew, DL.dLc, DL.dLc2, DL.bind1, DL.dYes, DL.dFrz, List.map_cons, List.map_nil, List.getElem?_cons_succ, List.getElem?_cons_zero, DL.atI_0, DL.atI_1, DL.atI_2, DL.atI_3, DL.atI_4, DL.atI_5, DL.atI_6, DL.atI_7, DL.ixN_0, DL.ixN_1, DL.ixN_2, DL.ixN_3, DL.oset_same, DL.oset_oset, DL.tl_one, DL.tl_ofL, TL.len_tl, DL.atI_nat_, Bool.false_eq_true, Bool.true_eq_false, Bool.not_false, Bool.not_true, if_true, if_false, decide_eq_true_eq, Bool.not_eq_true', Bool.not_eq_true, decide_eq_false_iff_not, Option.isSome_some, Option.isSome_none, List.all_cons, List.all_nil, Bool.and_self, Bool.true_and, Bool.and_true, ↓reduceIte, and_true, true_and, Nat.zero_add, Nat.reduceAdd, Nat.reduceLeDiff, ↓DL.onSome_e1, ↓DL.onL_e1, ↓DL.lstQ_e1, ↓DL.lstQ_e2, ↓DL.seqQ_e1, ↓DL.seqQ_e2, ↓DL.seqQ_e3, ↓DL.seqQ_e4, ↓DL.seqQ_e5, ↓DL.sqlQ_e1, ↓DL.sqlQ_e2, ↓DL.sqlQ_e3, ↓DL.onK_e1, ↓DL.onT_e1, ↓DL.dkQ_e1, ↓DL.dkQ_e2, ↓DL.dtQ_e1, ↓DL.dtQ_e2, ↓DL.findQ_e1, ↓DL.findQ_e2, ↓DL.findQ_e3, ↓DL.dAdd_e1, ↓DL.dAdd_e2, ↓DL.dAdd_e3, ↓DL.dAdd_e4, ↓DL.dAdd_e5, ↓DL.dAdd_e6, ↓DL.dAdd_e7, ↓DL.dI2_e1, ↓DL.dSub_e1, ↓DL.dCmpI_e1, ↓DL.dEq_e1, ↓DL.dEq_e2, ↓DL.dEq_e3, ↓DL.dEq_e4, ↓DL.dEq_e5, ↓DL.dEq_e6, ↓DL.dEq_e7, ↓DL.dEq_e8, ↓DL.dEq_e9, ↓DL.dEq_e10, ↓DL.dEq_e11, ↓DL.dEq_e12, ↓DL.dEq_e13, ↓DL.dEq_e14, ↓DL.dEq_e15, ↓DL.dIsN_e1, DL.isNon_e1, ↓DL.dInS_e1, ↓DL.dIn_e1, ↓DL.dIn_e2, ↓DL.dIn_e3, ↓DL.dIn_e4, ↓DL.dIn_e5, ↓DL.dIn_e6, ↓DL.dInK_e1, ↓DL.dIx_e1, ↓DL.dIx_e2, ↓DL.dIx_e3, ↓DL.dIx_e4, ↓DL.dIx_e5, ↓DL.dIx_e6, ↓DL.kBl_e1, ↓DL.kInt_e1, ↓DL.kTru_e1, ↓DL.kTru_e2, ↓DL.kTru_e3, ↓DL.kTru_e4, ↓DL.kTru_e5, ↓DL.kTru_e6, ↓DL.kTru_e7, ↓DL.kTru_e8, ↓DL.kTru_e9, ↓DL.kRef_e1, ↓DL.kLst_e1, ↓DL.kLst_e2, ↓DL.kTup_e1, ↓DL.kTup_e2, ↓DL.kStr_e1, ↓DL.kRng1_e1, ↓DL.kRng2_e1, ↓DL.kEnum_e1, ↓DL.kEnum_e2, ↓DL.kZip_e1, ↓DL.frzC_e1, ↓DL.frzC_e2, ↓DL.frzC_e3, ↓DL.dSlR_e1, ↓DL.dSlR_e2, ↓DL.dSlR_e3, ↓DL.dSlR_e4, ↓DL.dSlR_e5, ↓DL.dLen_e1, ↓DL.dLen_e2, ↓DL.dLen_e3, ↓DL.dLen_e4, ↓DL.dLen_e5, ↓DL.dLen_e6, ↓DL.dInt_e1, ↓DL.dInt_e2, ↓DL.dInt_e3, ↓DL.dStrI_e1, ↓DL.dIsi_e1, DL.tyName_e1, DL.tyName_e2, DL.tyName_e3, DL.tyName_e4, DL.tyName_e5, DL.tyName_e6, DL.tyName_e7, DL.tyName_e8, DL.tyName_e9, DL.tyName_e10, ↓DL.dApp_e1, ↓DL.dJoin_e1, ↓DL.dSplit_e1, ↓DL.dgNil_e1, ↓DL.dgCons_e1, ↓DL.dgTup_e1, ↓DL.dSetL_e1, ↓DL.dSetD_e1, ↓DL.dSetD_e2, ↓DL.dSetD_e3, ↓DL.dIAdd_e1, ↓DL.dIAdd_e2, ↓DL.dISub_e1, ↓DL.apart_e1, ↓DL.dUpd_e1, ↓DL.dMulS_e1, ↓DL.dInL_e1, ↓DL.endLc_e1, ↓DL.endLc_e2, DL.bindN_e1, DL.setAll_e1, DL.setAll_e2, DL.mTy_e1, DL.mTy_e2, DL.mTy_e3, DL.mTy_e4, DL.strsOf_e1, DL.strsOf_e2, DL.keyD_e1, DL.keyD_e2, DL.keysD_e1, DL.keysD_e2, ↓DL.forW_e1, ↓DL.forW_e2, ↓DL.lcW_e1, ↓DL.lcW_e2, ↓DL.lcG_e1, ↓DL.lcG_e2, ↓DL.lc2W_e1, ↓DL.lc2W_e2, ↓DL.dPairs_e1, ↓DL.dPairs_e2, DL.kvsOf_e1, DL.kvsOf_e2, DL.slot_e1, DL.slot_e2, DL.dwipe_e1, DL.dwipe_e2, DL.enumD_e1, DL.enumD_e2, DL.zipD_e1, DL.dstart_e1, DL.dstart_e2, DL.dstart_e3, DL.flatD_e1, DL.flatD_e2, DL.flatD_e3, DL.flatD_e4, DL.eqF_e1, DL.eqF_e2, DL.eqF_e3, DL.eqF_e4, DL.eqF_e5, DL.eqF_e6, ↓DL.dTupOf_e1, ↓DL.dTupOf_e2, ↓DL.dTupOf_e3, ↓DL.dListOf_e1, ↓DL.dMin2_e1, ↓DL.dExt_e1, ↓DL.dMulL_e1, ↓DL.dIsD_e1, ↓DL.dIsD_e2, ↓DL.dIsD_e3, ↓DL.dSortD_e1, ↓DL.kStr1_e1, DL.klook_e1, ↓DL.dVar_n0, ↓DL.dgName_n0, ↓DL.obind_n0, ↓DL.oslot_n0, ↓DL.dVar_n1, ↓DL.dgName_n1, ↓DL.obind_n1, ↓DL.oslot_n1, ↓DL.dVar_n2, ↓DL.dgName_n2, ↓DL.obind_n2, ↓DL.oslot_n2, ↓DL.dVar_n3, ↓DL.dgName_n3, ↓DL.obind_n3, ↓DL.oslot_n3, ↓DL.dVar_n4, ↓DL.dgName_n4, ↓DL.obind_n4, ↓DL.oslot_n4, ↓DL.dVar_n5, ↓DL.dgName_n5, ↓DL.obind_n5, ↓DL.oslot_n5, ↓DL.dVar_n6, ↓DL.dgName_n6, ↓DL.obind_n6, ↓DL.oslot_n6, ↓DL.dVar_n7, ↓DL.dgName_n7, ↓DL.obind_n7, ↓DL.oslot_n7, ↓DL.dVar_n8, ↓DL.dgName_n8, ↓DL.obind_n8, ↓DL.oslot_n8, ↓DL.dVar_n9, ↓DL.dgName_n9, ↓DL.obind_n9, ↓DL.oslot_n9, ↓DL.dVar_n10, ↓DL.dgName_n10, ↓DL.obind_n10, ↓DL.oslot_n10, ↓DL.dVar_n11, ↓DL.dgName_n11, ↓DL.obind_n11, ↓DL.oslot_n11, ↓DL.dVar_n12, ↓DL.dgName_n12, ↓DL.obind_n12, ↓DL.oslot_n12, ↓DL.dVar_n13, ↓DL.dgName_n13, ↓DL.obind_n13, ↓DL.oslot_n13, ↓DL.dVar_n14, ↓DL.dgName_n14, ↓DL.obind_n14, ↓DL.oslot_n14, ↓DL.dVar_n15, ↓DL.dgName_n15, ↓DL.obind_n15, ↓DL.oslot_n15, ↓DL.dVar_n16, ↓DL.dgName_n16, ↓DL.obind_n16, ↓DL.oslot_n16, ↓DL.dVar_n17, ↓DL.dgName_n17, ↓DL.obind_n17, ↓DL.oslot_n17, ↓DL.dVar_n18, ↓DL.dgName_n18, ↓DL.obind_n18, ↓DL.oslot_n18, ↓DL.dVar_n19, ↓DL.dgName_n19, ↓DL.obind_n19, ↓DL.oslot_n19, ↓DL.dVar_n20, ↓DL.dgName_n20, ↓DL.obind_n20, ↓DL.oslot_n20, ↓DL.dVar_n21, ↓DL.dgName_n21, ↓DL.obind_n21, ↓DL.oslot_n21, ↓DL.dVar_n22, ↓DL.dgName_n22, ↓DL.obind_n22, ↓DL.oslot_n22, ↓DL.dVar_n23, ↓DL.dgName_n23, ↓DL.obind_n23, ↓DL.oslot_n23, ↓DL.dVar_n24, ↓DL.dgName_n24, ↓DL.obind_n24, ↓DL.oslot_n24, ↓DL.dVar_n25, ↓DL.dgName_n25, ↓DL.obind_n25, ↓DL.oslot_n25, ↓DL.dVar_n26, ↓DL.dgName_n26, ↓DL.obind_n26, ↓DL.oslot_n26, ↓DL.dVar_n27, ↓DL.dgName_n27, ↓DL.obind_n27, ↓DL.oslot_n27, ↓DL.dVar_n28, ↓DL.dgName_n28, ↓DL.obind_n28, ↓DL.oslot_n28, ↓DL.dVar_n29, ↓DL.dgName_n29, ↓DL.obind_n29, ↓DL.oslot_n29, ↓DL.isiM_int, ↓DL.subTy_NoneType_int, ↓DL.subTy_bool_int, ↓DL.subTy_int_int, ↓DL.subTy_str_int, ↓DL.subTy_tuple_int, ↓DL.subTy_list_int, ↓DL.subTy_dict_int, ↓DL.isiM_str, ↓DL.subTy_NoneType_str, ↓DL.subTy_bool_str, ↓DL.subTy_int_str, ↓DL.subTy_str_str, ↓DL.subTy_tuple_str, ↓DL.subTy_list_str, ↓DL.subTy_dict_str, ↓DL.isiM_bool, ↓DL.subTy_NoneType_bool, ↓DL.subTy_bool_bool, ↓DL.subTy_int_bool, ↓DL.subTy_str_bool, ↓DL.subTy_tuple_bool, ↓DL.subTy_list_bool, ↓DL.subTy_dict_bool, ↓DL.isiM_list, ↓DL.subTy_NoneType_list, ↓DL.subTy_bool_list, ↓DL.subTy_int_list, ↓DL.subTy_str_list, ↓DL.subTy_tuple_list, ↓DL.subTy_list_list, ↓DL.subTy_dict_list, ↓DL.isiM_tuple, ↓DL.subTy_NoneType_tuple, ↓DL.subTy_bool_tuple, ↓DL.subTy_int_tuple, ↓DL.subTy_str_tuple, ↓DL.subTy_tuple_tuple, ↓DL.subTy_list_tuple, ↓DL.subTy_dict_tuple, ↓DL.isiM_dict, ↓DL.subTy_NoneType_dict, ↓DL.subTy_bool_dict, ↓DL.subTy_int_dict, ↓DL.subTy_str_dict, ↓DL.subTy_tuple_dict, ↓DL.subTy_list_dict, ↓DL.subTy_dict_dict, ↓DL.isNon_tup, ↓DL.isNon_lst, ↓DL.isNon_stup, ↓DL.isNon_slst, ↓DL.isNon_str, ↓DL.isNon_int, ↓DL.isNon_bl, ↓DL.isNon_ref, ↓DL.isNon_dK, ↓DL.isNon_dT, W1.lu_texts, W1.sc_len, DL.dLeS, W1.mh_need, W1.mh_lay, W1.mh_edit, W1.mh_drop, W1.mh_text, W1.mh_all_files, DL.kBl_e, DL.dChain, ↓W1.dLenD_e1, DL.dClear, DL.dListF_e1, ↓DL.dSortS_e1, ↓DL.dSortO_e1, ↓DL.dPop_e1, ↓DL.dPop_e2, DL.dRaiseP, DL.dListOf, $[$ts:term],*]); (repeat ((with_reducible refine DL.seq_r (fun R hR => ?_)); simp only [DL.dFz, ↓DL.onL_e1, DL.dTold, DL.dMethX, DL.dMakeX, DL.dForK, DL.dLcV, ↓DL.dMax2_e1, ↓DL.dMaxL_e1, DL.keyV_str, DL.cutD_tail, eq_self, Int.reduceEq, List.nil_append, List.cons_append, DL.ofs_eq, String.reduceEq, DL.inD_cons, DL.inD_nil, Bool.or_false, Bool.or_true, Bool.false_or, Bool.true_or, decide_true, decide_false, not_true_eq_false, not_false_eq_true, DL.dPar, ↓DL.kPar_e1, DL.dPar3, ↓DL.kPar3_e1, DL.dGet1, DL.dGet2, DL.dKGet2, DL.dAsg, DL.dVar, DL.dgName, DL.dgLst, DL.dgSub, List.length_cons, List.length_nil, List.set_cons_zero, List.set_cons_succ, DL.dAnd, DL.dOr, DL.dNot, DL.dTest, DL.dTrue, DL.dOp, DL.dCB, DL.dACons, DL.dANil, DL.dInQ, DL.dIxQ, DL.dAug, DL.dC, DL.dRet, DL.dRetF, DL.dRetN, DL.dSl, DL.dPart, DL.dNoPart, DL.dIf, DL.dIfS, DL.dTup, DL.dLstF, DL.dLstO, DL.dDrop, DL.dNever, DL.dNext, DL.dBreak, DL.dCont, DL.dFor, DL.dILst, DL.dITup, DL.dIStr, DL.dIRng1, DL.dIRng2, DL.dIEnum, DL.dIZip, DL.dBM, DL.dBM0, DL.dCall, DL.dFld, DL.dSFld, DL.dSFldI, DL.dMeth, DL.dMake, DL.dRaise, DL.dXf, DL.dEqL, ↓DL.dStrip_e1, ↓DL.onX_e1, DL.dCallX, ↓DL.onI_e1, DL.dAddO, DL.dMulO, ↓DL.kMulO_e1, DL.dLcO, DL.dAndV, DL.dOrV, DL.dNotV, DL.dNeg, DL.dDix, DL.dDin, DL.dDisp, DL.dDispF, DL.dDNew, DL.dLc, DL.dLc2, DL.bind1, DL.dYes, DL.dFrz, List.map_cons, List.map_nil, List.getElem?_cons_succ, List.getElem?_cons_zero, DL.atI_0, DL.atI_1, DL.atI_2, DL.atI_3, DL.atI_4, DL.atI_5, DL.atI_6, DL.atI_7, DL.ixN_0, DL.ixN_1, DL.ixN_2, DL.ixN_3, DL.oset_same, DL.oset_oset, DL.tl_one, DL.tl_ofL, TL.len_tl, DL.atI_nat_, Bool.false_eq_true, Bool.true_eq_false, Bool.not_false, Bool.not_true, if_true, if_false, decide_eq_true_eq, Bool.not_eq_true', Bool.not_eq_true, decide_eq_false_iff_not, Option.isSome_some, Option.isSome_none, List.all_cons, List.all_nil, Bool.and_self, Bool.true_and, Bool.and_true, ↓reduceIte, and_true, true_and, Nat.zero_add, Nat.reduceAdd, Nat.reduceLeDiff, ↓DL.onSome_e1, ↓DL.onL_e1, ↓DL.lstQ_e1, ↓DL.lstQ_e2, ↓DL.seqQ_e1, ↓DL.seqQ_e2, ↓DL.seqQ_e3, ↓DL.seqQ_e4, ↓DL.seqQ_e5, ↓DL.sqlQ_e1, ↓DL.sqlQ_e2, ↓DL.sqlQ_e3, ↓DL.onK_e1, ↓DL.onT_e1, ↓DL.dkQ_e1, ↓DL.dkQ_e2, ↓DL.dtQ_e1, ↓DL.dtQ_e2, ↓DL.findQ_e1, ↓DL.findQ_e2, ↓DL.findQ_e3, ↓DL.dAdd_e1, ↓DL.dAdd_e2, ↓DL.dAdd_e3, ↓DL.dAdd_e4, ↓DL.dAdd_e5, ↓DL.dAdd_e6, ↓DL.dAdd_e7, ↓DL.dI2_e1, ↓DL.dSub_e1, ↓DL.dCmpI_e1, ↓DL.dEq_e1, ↓DL.dEq_e2, ↓DL.dEq_e3, ↓DL.dEq_e4, ↓DL.dEq_e5, ↓DL.dEq_e6, ↓DL.dEq_e7, ↓DL.dEq_e8, ↓DL.dEq_e9, ↓DL.dEq_e10, ↓DL.dEq_e11, ↓DL.dEq_e12, ↓DL.dEq_e13, ↓DL.dEq_e14, ↓DL.dEq_e15, ↓DL.dIsN_e1, DL.isNon_e1, ↓DL.dInS_e1, ↓DL.dIn_e1, ↓DL.dIn_e2, ↓DL.dIn_e3, ↓DL.dIn_e4, ↓DL.dIn_e5, ↓DL.dIn_e6, ↓DL.dInK_e1, ↓DL.dIx_e1, ↓DL.dIx_e2, ↓DL.dIx_e3, ↓DL.dIx_e4, ↓DL.dIx_e5, ↓DL.dIx_e6, ↓DL.kBl_e1, ↓DL.kInt_e1, ↓DL.kTru_e1, ↓DL.kTru_e2, ↓DL.kTru_e3, ↓DL.kTru_e4, ↓DL.kTru_e5, ↓DL.kTru_e6, ↓DL.kTru_e7, ↓DL.kTru_e8, ↓DL.kTru_e9, ↓DL.kRef_e1, ↓DL.kLst_e1, ↓DL.kLst_e2, ↓DL.kTup_e1, ↓DL.kTup_e2, ↓DL.kStr_e1, ↓DL.kRng1_e1, ↓DL.kRng2_e1, ↓DL.kEnum_e1, ↓DL.kEnum_e2, ↓DL.kZip_e1, ↓DL.frzC_e1, ↓DL.frzC_e2, ↓DL.frzC_e3, ↓DL.dSlR_e1, ↓DL.dSlR_e2, ↓DL.dSlR_e3, ↓DL.dSlR_e4, ↓DL.dSlR_e5, ↓DL.dLen_e1, ↓DL.dLen_e2, ↓DL.dLen_e3, ↓DL.dLen_e4, ↓DL.dLen_e5, ↓DL.dLen_e6, ↓DL.dInt_e1, ↓DL.dInt_e2, ↓DL.dInt_e3, ↓DL.dStrI_e1, ↓DL.dIsi_e1, DL.tyName_e1, DL.tyName_e2, DL.tyName_e3, DL.tyName_e4, DL.tyName_e5, DL.tyName_e6, DL.tyName_e7, DL.tyName_e8, DL.tyName_e9, DL.tyName_e10, ↓DL.dApp_e1, ↓DL.dJoin_e1, ↓DL.dSplit_e1, ↓DL.dgNil_e1, ↓DL.dgCons_e1, ↓DL.dgTup_e1, ↓DL.dSetL_e1, ↓DL.dSetD_e1, ↓DL.dSetD_e2, ↓DL.dSetD_e3, ↓DL.dIAdd_e1, ↓DL.dIAdd_e2, ↓DL.dISub_e1, ↓DL.apart_e1, ↓DL.dUpd_e1, ↓DL.dMulS_e1, ↓DL.dInL_e1, ↓DL.endLc_e1, ↓DL.endLc_e2, DL.bindN_e1, DL.setAll_e1, DL.setAll_e2, DL.mTy_e1, DL.mTy_e2, DL.mTy_e3, DL.mTy_e4, DL.strsOf_e1, DL.strsOf_e2, DL.keyD_e1, DL.keyD_e2, DL.keysD_e1, DL.keysD_e2, ↓DL.forW_e1, ↓DL.forW_e2, ↓DL.lcW_e1, ↓DL.lcW_e2, ↓DL.lcG_e1, ↓DL.lcG_e2, ↓DL.lc2W_e1, ↓DL.lc2W_e2, ↓DL.dPairs_e1, ↓DL.dPairs_e2, DL.kvsOf_e1, DL.kvsOf_e2, DL.slot_e1, DL.slot_e2, DL.dwipe_e1, DL.dwipe_e2, DL.enumD_e1, DL.enumD_e2, DL.zipD_e1, DL.dstart_e1, DL.dstart_e2, DL.dstart_e3, DL.flatD_e1, DL.flatD_e2, DL.flatD_e3, DL.flatD_e4, DL.eqF_e1, DL.eqF_e2, DL.eqF_e3, DL.eqF_e4, DL.eqF_e5, DL.eqF_e6, ↓DL.dTupOf_e1, ↓DL.dTupOf_e2, ↓DL.dTupOf_e3, ↓DL.dListOf_e1, ↓DL.dMin2_e1, ↓DL.dExt_e1, ↓DL.dMulL_e1, ↓DL.dIsD_e1, ↓DL.dIsD_e2, ↓DL.dIsD_e3, ↓DL.dSortD_e1, ↓DL.kStr1_e1, DL.klook_e1, ↓DL.dVar_n0, ↓DL.dgName_n0, ↓DL.obind_n0, ↓DL.oslot_n0, ↓DL.dVar_n1, ↓DL.dgName_n1, ↓DL.obind_n1, ↓DL.oslot_n1, ↓DL.dVar_n2, ↓DL.dgName_n2, ↓DL.obind_n2, ↓DL.oslot_n2, ↓DL.dVar_n3, ↓DL.dgName_n3, ↓DL.obind_n3, ↓DL.oslot_n3, ↓DL.dVar_n4, ↓DL.dgName_n4, ↓DL.obind_n4, ↓DL.oslot_n4, ↓DL.dVar_n5, ↓DL.dgName_n5, ↓DL.obind_n5, ↓DL.oslot_n5, ↓DL.dVar_n6, ↓DL.dgName_n6, ↓DL.obind_n6, ↓DL.oslot_n6, ↓DL.dVar_n7, ↓DL.dgName_n7, ↓DL.obind_n7, ↓DL.oslot_n7, ↓DL.dVar_n8, ↓DL.dgName_n8, ↓DL.obind_n8, ↓DL.oslot_n8, ↓DL.dVar_n9, ↓DL.dgName_n9, ↓DL.obind_n9, ↓DL.oslot_n9, ↓DL.dVar_n10, ↓DL.dgName_n10, ↓DL.obind_n10, ↓DL.oslot_n10, ↓DL.dVar_n11, ↓DL.dgName_n11, ↓DL.obind_n11, ↓DL.oslot_n11, ↓DL.dVar_n12, ↓DL.dgName_n12, ↓DL.obind_n12, ↓DL.oslot_n12, ↓DL.dVar_n13, ↓DL.dgName_n13, ↓DL.obind_n13, ↓DL.oslot_n13, ↓DL.dVar_n14, ↓DL.dgName_n14, ↓DL.obind_n14, ↓DL.oslot_n14, ↓DL.dVar_n15, ↓DL.dgName_n15, ↓DL.obind_n15, ↓DL.oslot_n15, ↓DL.dVar_n16, ↓DL.dgName_n16, ↓DL.obind_n16, ↓DL.oslot_n16, ↓DL.dVar_n17, ↓DL.dgName_n17, ↓DL.obind_n17, ↓DL.oslot_n17, ↓DL.dVar_n18, ↓DL.dgName_n18, ↓DL.obind_n18, ↓DL.oslot_n18, ↓DL.dVar_n19, ↓DL.dgName_n19, ↓DL.obind_n19, ↓DL.oslot_n19, ↓DL.dVar_n20, ↓DL.dgName_n20, ↓DL.obind_n20, ↓DL.oslot_n20, ↓DL.dVar_n21, ↓DL.dgName_n21, ↓DL.obind_n21, ↓DL.oslot_n21, ↓DL.dVar_n22, ↓DL.dgName_n22, ↓DL.obind_n22, ↓DL.oslot_n22, ↓DL.dVar_n23, ↓DL.dgName_n23, ↓DL.obind_n23, ↓DL.oslot_n23, ↓DL.dVar_n24, ↓DL.dgName_n24, ↓DL.obind_n24, ↓DL.oslot_n24, ↓DL.dVar_n25, ↓DL.dgName_n25, ↓DL.obind_n25, ↓DL.oslot_n25, ↓DL.dVar_n26, ↓DL.dgName_n26, ↓DL.obind_n26, ↓DL.oslot_n26, ↓DL.dVar_n27, ↓DL.dgName_n27, ↓DL.obind_n27, ↓DL.oslot_n27, ↓DL.dVar_n28, ↓DL.dgName_n28, ↓DL.obind_n28, ↓DL.oslot_n28, ↓DL.dVar_n29, ↓DL.dgName_n29, ↓DL.obind_n29, ↓DL.oslot_n29, ↓DL.isiM_int, ↓DL.subTy_NoneType_int, ↓DL.subTy_bool_int, ↓DL.subTy_int_int, ↓DL.subTy_str_int, ↓DL.subTy_tuple_int, ↓DL.subTy_list_int, ↓DL.subTy_dict_int, ↓DL.isiM_str, ↓DL.subTy_NoneType_str, ↓DL.subTy_bool_str, ↓DL.subTy_int_str, ↓DL.subTy_str_str, ↓DL.subTy_tuple_str, ↓DL.subTy_list_str, ↓DL.subTy_dict_str, ↓DL.isiM_bool, ↓DL.subTy_NoneType_bool, ↓DL.subTy_bool_bool, ↓DL.subTy_int_bool, ↓DL.subTy_str_bool, ↓DL.subTy_tuple_bool, ↓DL.subTy_list_bool, ↓DL.subTy_dict_bool, ↓DL.isiM_list, ↓DL.subTy_NoneType_list, ↓DL.subTy_bool_list, ↓DL.subTy_int_list, ↓DL.subTy_str_list, ↓DL.subTy_tuple_list, ↓DL.subTy_list_list, ↓DL.subTy_dict_list, ↓DL.isiM_tuple, ↓DL.subTy_NoneType_tuple, ↓DL.subTy_bool_tuple, ↓DL.subTy_int_tuple, ↓DL.subTy_str_tuple, ↓DL.subTy_tuple_tuple, ↓DL.subTy_list_tuple, ↓DL.subTy_dict_tuple, ↓DL.isiM_dict, ↓DL.subTy_NoneType_dict, ↓DL.subTy_bool_dict, ↓DL.subTy_int_dict, ↓DL.subTy_str_dict, ↓DL.subTy_tuple_dict, ↓DL.subTy_list_dict, ↓DL.subTy_dict_dict, ↓DL.isNon_tup, ↓DL.isNon_lst, ↓DL.isNon_stup, ↓DL.isNon_slst, ↓DL.isNon_str, ↓DL.isNon_int, ↓DL.isNon_bl, ↓DL.isNon_ref, ↓DL.isNon_dK, ↓DL.isNon_dT, W1.lu_texts, W1.sc_len, DL.dLeS, W1.mh_need, W1.mh_lay, W1.mh_edit, W1.mh_drop, W1.mh_text, W1.mh_all_files, DL.kBl_e, DL.dChain, ↓W1.dLenD_e1, DL.dClear, DL.dListF_e1, ↓DL.dSortS_e1, ↓DL.dSortO_e1, ↓DL.dPop_e1, ↓DL.dPop_e2, DL.dRaiseP, DL.dListOf, $[$ts:term],*]; subst hR)); (try simp only [DL.dFz, ↓DL.onL_e1, DL.dTold, DL.dMethX, DL.dMakeX, DL.dForK, DL.dLcV, ↓DL.dMax2_e1, ↓DL.dMaxL_e1, DL.keyV_str, DL.cutD_tail, eq_self, Int.reduceEq, List.nil_append, List.cons_append, DL.ofs_eq, String.reduceEq, DL.inD_cons, DL.inD_nil, Bool.or_false, Bool.or_true, Bool.false_or, Bool.true_or, decide_true, decide_false, not_true_eq_false, not_false_eq_true, DL.dPar, ↓DL.kPar_e1, DL.dPar3, ↓DL.kPar3_e1, DL.dGet1, DL.dGet2, DL.dKGet2, DL.dAsg, DL.dVar, DL.dgName, DL.dgLst, DL.dgSub, List.length_cons, List.length_nil, List.set_cons_zero, List.set_cons_succ, DL.dAnd, DL.dOr, DL.dNot, DL.dTest, DL.dTrue, DL.dOp, DL.dCB, DL.dACons, DL.dANil, DL.dInQ, DL.dIxQ, DL.dAug, DL.dC, DL.dRet, DL.dRetF, DL.dRetN, DL.dSl, DL.dPart, DL.dNoPart, DL.dIf, DL.dIfS, DL.dTup, DL.dLstF, DL.dLstO, DL.dDrop, DL.dNever, DL.dNext, DL.dBreak, DL.dCont, DL.dFor, DL.dILst, DL.dITup, DL.dIStr, DL.dIRng1, DL.dIRng2, DL.dIEnum, DL.dIZip, DL.dBM, DL.dBM0, DL.dCall, DL.dFld, DL.dSFld, DL.dSFldI, DL.dMeth, DL.dMake, DL.dRaise, DL.dXf, DL.dEqL, ↓DL.dStrip_e1, ↓DL.onX_e1, DL.dCallX, ↓DL.onI_e1, DL.dAddO, DL.dMulO, ↓DL.kMulO_e1, DL.dLcO, DL.dAndV, DL.dOrV, DL.dNotV, DL.dNeg, DL.dDix, DL.dDin, DL.dDisp, DL.dDispF, DL.dDNew, DL.dLc, DL.dLc2, DL.bind1, DL.dYes, DL.dFrz, List.map_cons, List.map_nil, List.getElem?_cons_succ, List.getElem?_cons_zero, DL.atI_0, DL.atI_1, DL.atI_2, DL.atI_3, DL.atI_4, DL.atI_5, DL.atI_6, DL.atI_7, DL.ixN_0, DL.ixN_1, DL.ixN_2, DL.ixN_3, DL.oset_same, DL.oset_oset, DL.tl_one, DL.tl_ofL, TL.len_tl, DL.atI_nat_, Bool.false_eq_true, Bool.true_eq_false, Bool.not_false, Bool.not_true, if_true, if_false, decide_eq_true_eq, Bool.not_eq_true', Bool.not_eq_true, decide_eq_false_iff_not, Option.isSome_some, Option.isSome_none, List.all_cons, List.all_nil, Bool.and_self, Bool.true_and, Bool.and_true, ↓reduceIte, and_true, true_and, Nat.zero_add, Nat.reduceAdd, Nat.reduceLeDiff, ↓DL.onSome_e1, ↓DL.onL_e1, ↓DL.lstQ_e1, ↓DL.lstQ_e2, ↓DL.seqQ_e1, ↓DL.seqQ_e2, ↓DL.seqQ_e3, ↓DL.seqQ_e4, ↓DL.seqQ_e5, ↓DL.sqlQ_e1, ↓DL.sqlQ_e2, ↓DL.sqlQ_e3, ↓DL.onK_e1, ↓DL.onT_e1, ↓DL.dkQ_e1, ↓DL.dkQ_e2, ↓DL.dtQ_e1, ↓DL.dtQ_e2, ↓DL.findQ_e1, ↓DL.findQ_e2, ↓DL.findQ_e3, ↓DL.dAdd_e1, ↓DL.dAdd_e2, ↓DL.dAdd_e3, ↓DL.dAdd_e4, ↓DL.dAdd_e5, ↓DL.dAdd_e6, ↓DL.dAdd_e7, ↓DL.dI2_e1, ↓DL.dSub_e1, ↓DL.dCmpI_e1, ↓DL.dEq_e1, ↓DL.dEq_e2, ↓DL.dEq_e3, ↓DL.dEq_e4, ↓DL.dEq_e5, ↓DL.dEq_e6, ↓DL.dEq_e7, ↓DL.dEq_e8, ↓DL.dEq_e9, ↓DL.dEq_e10, ↓DL.dEq_e11, ↓DL.dEq_e12, ↓DL.dEq_e13, ↓DL.dEq_e14, ↓DL.dEq_e15, ↓DL.dIsN_e1, DL.isNon_e1, ↓DL.dInS_e1, ↓DL.dIn_e1, ↓DL.dIn_e2, ↓DL.dIn_e3, ↓DL.dIn_e4, ↓DL.dIn_e5, ↓DL.dIn_e6, ↓DL.dInK_e1, ↓DL.dIx_e1, ↓DL.dIx_e2, ↓DL.dIx_e3, ↓DL.dIx_e4, ↓DL.dIx_e5, ↓DL.dIx_e6, ↓DL.kBl_e1, ↓DL.kInt_e1, ↓DL.kTru_e1, ↓DL.kTru_e2, ↓DL.kTru_e3, ↓DL.kTru_e4, ↓DL.kTru_e5, ↓DL.kTru_e6, ↓DL.kTru_e7, ↓DL.kTru_e8, ↓DL.kTru_e9, ↓DL.kRef_e1, ↓DL.kLst_e1, ↓DL.kLst_e2, ↓DL.kTup_e1, ↓DL.kTup_e2, ↓DL.kStr_e1, ↓DL.kRng1_e1, ↓DL.kRng2_e1, ↓DL.kEnum_e1, ↓DL.kEnum_e2, ↓DL.kZip_e1, ↓DL.frzC_e1, ↓DL.frzC_e2, ↓DL.frzC_e3, ↓DL.dSlR_e1, ↓DL.dSlR_e2, ↓DL.dSlR_e3, ↓DL.dSlR_e4, ↓DL.dSlR_e5, ↓DL.dLen_e1, ↓DL.dLen_e2, ↓DL.dLen_e3, ↓DL.dLen_e4, ↓DL.dLen_e5, ↓DL.dLen_e6, ↓DL.dInt_e1, ↓DL.dInt_e2, ↓DL.dInt_e3, ↓DL.dStrI_e1, ↓DL.dIsi_e1, DL.tyName_e1, DL.tyName_e2, DL.tyName_e3, DL.tyName_e4, DL.tyName_e5, DL.tyName_e6, DL.tyName_e7, DL.tyName_e8, DL.tyName_e9, DL.tyName_e10, ↓DL.dApp_e1, ↓DL.dJoin_e1, ↓DL.dSplit_e1, ↓DL.dgNil_e1, ↓DL.dgCons_e1, ↓DL.dgTup_e1, ↓DL.dSetL_e1, ↓DL.dSetD_e1, ↓DL.dSetD_e2, ↓DL.dSetD_e3, ↓DL.dIAdd_e1, ↓DL.dIAdd_e2, ↓DL.dISub_e1, ↓DL.apart_e1, ↓DL.dUpd_e1, ↓DL.dMulS_e1, ↓DL.dInL_e1, ↓DL.endLc_e1, ↓DL.endLc_e2, DL.bindN_e1, DL.setAll_e1, DL.setAll_e2, DL.mTy_e1, DL.mTy_e2, DL.mTy_e3, DL.mTy_e4, DL.strsOf_e1, DL.strsOf_e2, DL.keyD_e1, DL.keyD_e2, DL.keysD_e1, DL.keysD_e2, ↓DL.forW_e1, ↓DL.forW_e2, ↓DL.lcW_e1, ↓DL.lcW_e2, ↓DL.lcG_e1, ↓DL.lcG_e2, ↓DL.lc2W_e1, ↓DL.lc2W_e2, ↓DL.dPairs_e1, ↓DL.dPairs_e2, DL.kvsOf_e1, DL.kvsOf_e2, DL.slot_e1, DL.slot_e2, DL.dwipe_e1, DL.dwipe_e2, DL.enumD_e1, DL.enumD_e2, DL.zipD_e1, DL.dstart_e1, DL.dstart_e2, DL.dstart_e3, DL.flatD_e1, DL.flatD_e2, DL.flatD_e3, DL.flatD_e4, DL.eqF_e1, DL.eqF_e2, DL.eqF_e3, DL.eqF_e4, DL.eqF_e5, DL.eqF_e6, ↓DL.dTupOf_e1, ↓DL.dTupOf_e2, ↓DL.dTupOf_e3, ↓DL.dListOf_e1, ↓DL.dMin2_e1, ↓DL.dExt_e1, ↓DL.dMulL_e1, ↓DL.dIsD_e1, ↓DL.dIsD_e2, ↓DL.dIsD_e3, ↓DL.dSortD_e1, ↓DL.kStr1_e1, DL.klook_e1, ↓DL.dVar_n0, ↓DL.dgName_n0, ↓DL.obind_n0, ↓DL.oslot_n0, ↓DL.dVar_n1, ↓DL.dgName_n1, ↓DL.obind_n1, ↓DL.oslot_n1, ↓DL.dVar_n2, ↓DL.dgName_n2, ↓DL.obind_n2, ↓DL.oslot_n2, ↓DL.dVar_n3, ↓DL.dgName_n3, ↓DL.obind_n3, ↓DL.oslot_n3, ↓DL.dVar_n4, ↓DL.dgName_n4, ↓DL.obind_n4, ↓DL.oslot_n4, ↓DL.dVar_n5, ↓DL.dgName_n5, ↓DL.obind_n5, ↓DL.oslot_n5, ↓DL.dVar_n6, ↓DL.dgName_n6, ↓DL.obind_n6, ↓DL.oslot_n6, ↓DL.dVar_n7, ↓DL.dgName_n7, ↓DL.obind_n7, ↓DL.oslot_n7, ↓DL.dVar_n8, ↓DL.dgName_n8, ↓DL.obind_n8, ↓DL.oslot_n8, ↓DL.dVar_n9, ↓DL.dgName_n9, ↓DL.obind_n9, ↓DL.oslot_n9, ↓DL.dVar_n10, ↓DL.dgName_n10, ↓DL.obind_n10, ↓DL.oslot_n10, ↓DL.dVar_n11, ↓DL.dgName_n11, ↓DL.obind_n11, ↓DL.oslot_n11, ↓DL.dVar_n12, ↓DL.dgName_n12, ↓DL.obind_n12, ↓DL.oslot_n12, ↓DL.dVar_n13, ↓DL.dgName_n13, ↓DL.obind_n13, ↓DL.oslot_n13, ↓DL.dVar_n14, ↓DL.dgName_n14, ↓DL.obind_n14, ↓DL.oslot_n14, ↓DL.dVar_n15, ↓DL.dgName_n15, ↓DL.obind_n15, ↓DL.oslot_n15, ↓DL.dVar_n16, ↓DL.dgName_n16, ↓DL.obind_n16, ↓DL.oslot_n16, ↓DL.dVar_n17, ↓DL.dgName_n17, ↓DL.obind_n17, ↓DL.oslot_n17, ↓DL.dVar_n18, ↓DL.dgName_n18, ↓DL.obind_n18, ↓DL.oslot_n18, ↓DL.dVar_n19, ↓DL.dgName_n19, ↓DL.obind_n19, ↓DL.oslot_n19, ↓DL.dVar_n20, ↓DL.dgName_n20, ↓DL.obind_n20, ↓DL.oslot_n20, ↓DL.dVar_n21, ↓DL.dgName_n21, ↓DL.obind_n21, ↓DL.oslot_n21, ↓DL.dVar_n22, ↓DL.dgName_n22, ↓DL.obind_n22, ↓DL.oslot_n22, ↓DL.dVar_n23, ↓DL.dgName_n23, ↓DL.obind_n23, ↓DL.oslot_n23, ↓DL.dVar_n24, ↓DL.dgName_n24, ↓DL.obind_n24, ↓DL.oslot_n24, ↓DL.dVar_n25, ↓DL.dgName_n25, ↓DL.obind_n25, ↓DL.oslot_n25, ↓DL.dVar_n26, ↓DL.dgName_n26, ↓DL.obind_n26, ↓DL.oslot_n26, ↓DL.dVar_n27, ↓DL.dgName_n27, ↓DL.obind_n27, ↓DL.oslot_n27, ↓DL.dVar_n28, ↓DL.dgName_n28, ↓DL.obind_n28, ↓DL.oslot_n28, ↓DL.dVar_n29, ↓DL.dgName_n29, ↓DL.obind_n29, ↓DL.oslot_n29, ↓DL.isiM_int, ↓DL.subTy_NoneType_int, ↓DL.subTy_bool_int, ↓DL.subTy_int_int, ↓DL.subTy_str_int, ↓DL.subTy_tuple_int, ↓DL.subTy_list_int, ↓DL.subTy_dict_int, ↓DL.isiM_str, ↓DL.subTy_NoneType_str, ↓DL.subTy_bool_str, ↓DL.subTy_int_str, ↓DL.subTy_str_str, ↓DL.subTy_tuple_str, ↓DL.subTy_list_str, ↓DL.subTy_dict_str, ↓DL.isiM_bool, ↓DL.subTy_NoneType_bool, ↓DL.subTy_bool_bool, ↓DL.subTy_int_bool, ↓DL.subTy_str_bool, ↓DL.subTy_tuple_bool, ↓DL.subTy_list_bool, ↓DL.subTy_dict_bool, ↓DL.isiM_list, ↓DL.subTy_NoneType_list, ↓DL.subTy_bool_list, ↓DL.subTy_int_list, ↓DL.subTy_str_list, ↓DL.subTy_tuple_list, ↓DL.subTy_list_list, ↓DL.subTy_dict_list, ↓DL.isiM_tuple, ↓DL.subTy_NoneType_tuple, ↓DL.subTy_bool_tuple, ↓DL.subTy_int_tuple, ↓DL.subTy_str_tuple, ↓DL.subTy_tuple_tuple, ↓DL.subTy_list_tuple, ↓DL.subTy_dict_tuple, ↓DL.isiM_dict, ↓DL.subTy_NoneType_dict, ↓DL.subTy_bool_dict, ↓DL.subTy_int_dict, ↓DL.subTy_str_dict, ↓DL.subTy_tuple_dict, ↓DL.subTy_list_dict, ↓DL.subTy_dict_dict, ↓DL.isNon_tup, ↓DL.isNon_lst, ↓DL.isNon_stup, ↓DL.isNon_slst, ↓DL.isNon_str, ↓DL.isNon_int, ↓DL.isNon_bl, ↓DL.isNon_ref, ↓DL.isNon_dK, ↓DL.isNon_dT, W1.lu_texts, W1.sc_len, DL.dLeS, W1.mh_need, W1.mh_lay, W1.mh_edit, W1.mh_drop, W1.mh_text, W1.mh_all_files, DL.kBl_e, DL.dChain, ↓W1.dLenD_e1, DL.dClear, DL.dListF_e1, ↓DL.dSortS_e1, ↓DL.dSortO_e1, ↓DL.dPop_e1, ↓DL.dPop_e2, DL.dRaiseP, DL.dListOf, $[$ts:term],*])))))
local macro_rules | `(tactic| walk_at "ev") => `(tactic| ((try simp only [DL.dFz, ↓DL.onL_e1, DL.dTold, DL.dMethX, DL.dMakeX, DL.dForK, DL.dLcV, ↓DL.dMax2_e1, ↓DL.dMaxL_e1, DL.keyV_str, DL.cutD_tail, eq_self, Int.reduceEq, List.nil_append, List.cons_append, DL.ofs_eq, String.reduceEq, DL.inD_cons, DL.inD_nil, Bool.or_false, Bool.or_true, Bool.false_or, Bool.true_or, decide_true, decide_false, not_true_eq_false, not_false_eq_true, DL.dPar, ↓DL.kPar_e1, DL.dPar3, ↓DL.kPar3_e1, DL.dGet1, DL.dGet2, DL.dKGet2, DL.dAsg, DL.dVar, DL.dgName, DL.dgLst, DL.dgSub, List.length_cons, List.length_nil, List.set_cons_zero, List.set_cons_succ, DL.dAnd, DL.dOr, DL.dNot, DL.dTest, DL.dTrue, DL.dOp, DL.dCB, DL.dACons, DL.dANil, DL.dInQ, DL.dIxQ, DL.dAug, DL.dC, DL.dRet, DL.dRetF, DL.dRetN, DL.dSl, DL.dPart, DL.dNoPart, DL.dIf, DL.dIfS, DL.dTup, DL.dLstF, DL.dLstO, DL.dDrop, DL.dNever, DL.dNext, DL.dBreak, DL.dCont, DL.dFor, DL.dILst, DL.dITup, DL.dIStr, DL.dIRng1, DL.dIRng2, DL.dIEnum, DL.dIZip, DL.dBM, DL.dBM0, DL.dCall, DL.dFld, DL.dSFld, DL.dSFldI, DL.dMeth, DL.dMake, DL.dRaise, DL.dXf, DL.dEqL, ↓DL.dStrip_e1, ↓DL.onX_e1, DL.dCallX, ↓DL.onI_e1, DL.dAddO, DL.dMulO, ↓DL.kMulO_e1, DL.dLcO, DL.dAndV, DL.dOrV, DL.dNotV, DL.dNeg, DL.dDix, DL.dDin, DL.dDisp, DL.dDispF, DL.dDNew, DL.dLc, DL.dLc2, DL.bind1, DL.dYes, DL.dFrz, List.map_cons, List.map_nil, List.getElem?_cons_succ, List.getElem?_cons_zero, DL.atI_0, DL.atI_1, DL.atI_2, DL.atI_3, DL.atI_4, DL.atI_5, DL.atI_6, DL.atI_7, DL.ixN_0, DL.ixN_1, DL.ixN_2, DL.ixN_3, DL.oset_same, DL.oset_oset, DL.tl_one, DL.tl_ofL, TL.len_tl, DL.atI_nat_, Bool.false_eq_true, Bool.true_eq_false, Bool.not_false, Bool.not_true, if_true, if_false, decide_eq_true_eq, Bool.not_eq_true', Bool.not_eq_true, decide_eq_false_iff_not, Option.isSome_some, Option.isSome_none, List.all_cons, List.all_nil, Bool.and_self, Bool.true_and, Bool.and_true, ↓reduceIte, and_true, true_and, Nat.zero_add, Nat.reduceAdd, Nat.reduceLeDiff, ↓DL.onSome_e1, ↓DL.onL_e1, ↓DL.lstQ_e1, ↓DL.lstQ_e2, ↓DL.seqQ_e1, ↓DL.seqQ_e2, ↓DL.seqQ_e3, ↓DL.seqQ_e4, ↓DL.seqQ_e5, ↓DL.sqlQ_e1, ↓DL.sqlQ_e2, ↓DL.sqlQ_e3, ↓DL.onK_e1, ↓DL.onT_e1, ↓DL.dkQ_e1, ↓DL.dkQ_e2, ↓DL.dtQ_e1, ↓DL.dtQ_e2, ↓DL.findQ_e1, ↓DL.findQ_e2, ↓DL.findQ_e3, ↓DL.dAdd_e1, ↓DL.dAdd_e2, ↓DL.dAdd_e3, ↓DL.dAdd_e4, ↓DL.dAdd_e5, ↓DL.dAdd_e6, ↓DL.dAdd_e7, ↓DL.dI2_e1, ↓DL.dSub_e1, ↓DL.dCmpI_e1, ↓DL.dEq_e1, ↓DL.dEq_e2, ↓DL.dEq_e3, ↓DL.dEq_e4, ↓DL.dEq_e5, ↓DL.dEq_e6, ↓DL.dEq_e7, ↓DL.dEq_e8, ↓DL.dEq_e9, ↓DL.dEq_e10, ↓DL.dEq_e11, ↓DL.dEq_e12, ↓DL.dEq_e13, ↓DL.dEq_e14, ↓DL.dEq_e15, ↓DL.dIsN_e1, DL.isNon_e1, ↓DL.dInS_e1, ↓DL.dIn_e1, ↓DL.dIn_e2, ↓DL.dIn_e3, ↓DL.dIn_e4, ↓DL.dIn_e5, ↓DL.dIn_e6, ↓DL.dInK_e1, ↓DL.dIx_e1, ↓DL.dIx_e2, ↓DL.dIx_e3, ↓DL.dIx_e4, ↓DL.dIx_e5, ↓DL.dIx_e6, ↓DL.kBl_e1, ↓DL.kInt_e1, ↓DL.kTru_e1, ↓DL.kTru_e2, ↓DL.kTru_e3, ↓DL.kTru_e4, ↓DL.kTru_e5, ↓DL.kTru_e6, ↓DL.kTru_e7, ↓DL.kTru_e8, ↓DL.kTru_e9, ↓DL.kRef_e1, ↓DL.kLst_e1, ↓DL.kLst_e2, ↓DL.kTup_e1, ↓DL.kTup_e2, ↓DL.kStr_e1, ↓DL.kRng1_e1, ↓DL.kRng2_e1, ↓DL.kEnum_e1, ↓DL.kEnum_e2, ↓DL.kZip_e1, ↓DL.frzC_e1, ↓DL.frzC_e2, ↓DL.frzC_e3, ↓DL.dSlR_e1, ↓DL.dSlR_e2, ↓DL.dSlR_e3, ↓DL.dSlR_e4, ↓DL.dSlR_e5, ↓DL.dLen_e1, ↓DL.dLen_e2, ↓DL.dLen_e3, ↓DL.dLen_e4, ↓DL.dLen_e5, ↓DL.dLen_e6, ↓DL.dInt_e1, ↓DL.dInt_e2, ↓DL.dInt_e3, ↓DL.dStrI_e1, ↓DL.dIsi_e1, DL.tyName_e1, DL.tyName_e2, DL.tyName_e3, DL.tyName_e4, DL.tyName_e5, DL.tyName_e6, DL.tyName_e7, DL.tyName_e8, DL.tyName_e9, DL.tyName_e10, ↓DL.dApp_e1, ↓DL.dJoin_e1, ↓DL.dSplit_e1, ↓DL.dgNil_e1, ↓DL.dgCons_e1, ↓DL.dgTup_e1, ↓DL.dSetL_e1, ↓DL.dSetD_e1, ↓DL.dSetD_e2, ↓DL.dSetD_e3, ↓DL.dIAdd_e1, ↓DL.dIAdd_e2, ↓DL.dISub_e1, ↓DL.apart_e1, ↓DL.dUpd_e1, ↓DL.dMulS_e1, ↓DL.dInL_e1, ↓DL.endLc_e1, ↓DL.endLc_e2, DL.bindN_e1, DL.setAll_e1, DL.setAll_e2, DL.mTy_e1, DL.mTy_e2, DL.mTy_e3, DL.mTy_e4, DL.strsOf_e1, DL.strsOf_e2, DL.keyD_e1, DL.keyD_e2, DL.keysD_e1, DL.keysD_e2, ↓DL.forW_e1, ↓DL.forW_e2, ↓DL.lcW_e1, ↓DL.lcW_e2, ↓DL.lcG_e1, ↓DL.lcG_e2, ↓DL.lc2W_e1, ↓DL.lc2W_e2, ↓DL.dPairs_e1, ↓DL.dPairs_e2, DL.kvsOf_e1, DL.kvsOf_e2, DL.slot_e1, DL.slot_e2, DL.dwipe_e1, DL.dwipe_e2, DL.enumD_e1, DL.enumD_e2, DL.zipD_e1, DL.dstart_e1, DL.dstart_e2, DL.dstart_e3, DL.flatD_e1, DL.flatD_e2, DL.flatD_e3, DL.flatD_e4, DL.eqF_e1, DL.eqF_e2, DL.eqF_e3, DL.eqF_e4, DL.eqF_e5, DL.eqF_e6, ↓DL.dTupOf_e1, ↓DL.dTupOf_e2, ↓DL.dTupOf_e3, ↓DL.dListOf_e1, ↓DL.dMin2_e1, ↓DL.dExt_e1, ↓DL.dMulL_e1, ↓DL.dIsD_e1, ↓DL.dIsD_e2, ↓DL.dIsD_e3, ↓DL.dSortD_e1, ↓DL.kStr1_e1, DL.klook_e1, ↓DL.dVar_n0, ↓DL.dgName_n0, ↓DL.obind_n0, ↓DL.oslot_n0, ↓DL.dVar_n1, ↓DL.dgName_n1, ↓DL.obind_n1, ↓DL.oslot_n1, ↓DL.dVar_n2, ↓DL.dgName_n2, ↓DL.obind_n2, ↓DL.oslot_n2, ↓DL.dVar_n3, ↓DL.dgName_n3, ↓DL.obind_n3, ↓DL.oslot_n3, ↓DL.dVar_n4, ↓DL.dgName_n4, ↓DL.obind_n4, ↓DL.oslot_n4, ↓DL.dVar_n5, ↓DL.dgName_n5, ↓DL.obind_n5, ↓DL.oslot_n5, ↓DL.dVar_n6, ↓DL.dgName_n6, ↓DL.obind_n6, ↓DL.oslot_n6, ↓DL.dVar_n7, ↓DL.dgName_n7, ↓DL.obind_n7, ↓DL.oslot_n7, ↓DL.dVar_n8, ↓DL.dgName_n8, ↓DL.obind_n8, ↓DL.oslot_n8, ↓DL.dVar_n9, ↓DL.dgName_n9, ↓DL.obind_n9, ↓DL.oslot_n9, ↓DL.dVar_n10, ↓DL.dgName_n10, ↓DL.obind_n10, ↓DL.oslot_n10, ↓DL.dVar_n11, ↓DL.dgName_n11, ↓DL.obind_n11, ↓DL.oslot_n11, ↓DL.dVar_n12, ↓DL.dgName_n12, ↓DL.obind_n12, ↓DL.oslot_n12, ↓DL.dVar_n13, ↓DL.dgName_n13, ↓DL.obind_n13, ↓DL.oslot_n13, ↓DL.dVar_n14, ↓DL.dgName_n14, ↓DL.obind_n14, ↓DL.oslot_n14, ↓DL.dVar_n15, ↓DL.dgName_n15, ↓DL.obind_n15, ↓DL.oslot_n15, ↓DL.dVar_n16, ↓DL.dgName_n16, ↓DL.obind_n16, ↓DL.oslot_n16, ↓DL.dVar_n17, ↓DL.dgName_n17, ↓DL.obind_n17, ↓DL.oslot_n17, ↓DL.dVar_n18, ↓DL.dgName_n18, ↓DL.obind_n18, ↓DL.oslot_n18, ↓DL.dVar_n19, ↓DL.dgName_n19, ↓DL.obind_n19, ↓DL.oslot_n19, ↓DL.dVar_n20, ↓DL.dgName_n20, ↓DL.obind_n20, ↓DL.oslot_n20, ↓DL.dVar_n21, ↓DL.dgName_n21, ↓DL.obind_n21, ↓DL.oslot_n21, ↓DL.dVar_n22, ↓DL.dgName_n22, ↓DL.obind_n22, ↓DL.oslot_n22, ↓DL.dVar_n23, ↓DL.dgName_n23, ↓DL.obind_n23, ↓DL.oslot_n23, ↓DL.dVar_n24, ↓DL.dgName_n24, ↓DL.obind_n24, ↓DL.oslot_n24, ↓DL.dVar_n25, ↓DL.dgName_n25, ↓DL.obind_n25, ↓DL.oslot_n25, ↓DL.dVar_n26, ↓DL.dgName_n26, ↓DL.obind_n26, ↓DL.oslot_n26, ↓DL.dVar_n27, ↓DL.dgName_n27, ↓DL.obind_n27, ↓DL.oslot_n27, ↓DL.dVar_n28, ↓DL.dgName_n28, ↓DL.obind_n28, ↓DL.oslot_n28, ↓DL.dVar_n29, ↓DL.dgName_n29, ↓DL.obind_n29, ↓DL.oslot_n29, ↓DL.isiM_int, ↓DL.subTy_NoneType_int, ↓DL.subTy_bool_int, ↓DL.subTy_int_int, ↓DL.subTy_str_int, ↓DL.subTy_tuple_int, ↓DL.subTy_list_int, ↓DL.subTy_dict_int, ↓DL.isiM_str, ↓DL.subTy_NoneType_str, ↓DL.subTy_bool_str, ↓DL.subTy_int_str, ↓DL.subTy_str_str, ↓DL.subTy_tuple_str, ↓DL.subTy_list_str, ↓DL.subTy_dict_str, ↓DL.isiM_bool, ↓DL.subTy_NoneType_bool, ↓DL.subTy_bool_bool, ↓DL.subTy_int_bool, ↓DL.subTy_str_bool, ↓DL.subTy_tuple_bool, ↓DL.subTy_list_bool, ↓DL.subTy_dict_bool, ↓DL.isiM_list, ↓DL.subTy_NoneType_list, ↓DL.subTy_bool_list, ↓DL.subTy_int_list, ↓DL.subTy_str_list, ↓DL.subTy_tuple_list, ↓DL.subTy_list_list, ↓DL.subTy_dict_list, ↓DL.isiM_tuple, ↓DL.subTy_NoneType_tuple, ↓DL.subTy_bool_tuple, ↓DL.subTy_int_tuple, ↓DL.subTy_str_tuple, ↓DL.subTy_tuple_tuple, ↓DL.subTy_list_tuple, ↓DL.subTy_dict_tuple, ↓DL.isiM_dict, ↓DL.subTy_NoneType_dict, ↓DL.subTy_bool_dict, ↓DL.subTy_int_dict, ↓DL.subTy_str_dict, ↓DL.subTy_tuple_dict, ↓DL.subTy_list_dict, ↓DL.subTy_dict_dict, ↓DL.isNon_tup, ↓DL.isNon_lst, ↓DL.isNon_stup, ↓DL.isNon_slst, ↓DL.isNon_str, ↓DL.isNon_int, ↓DL.isNon_bl, ↓DL.isNon_ref, ↓DL.isNon_dK, ↓DL.isNon_dT, W1.lu_texts, W1.sc_len, DL.dLeS, W1.mh_need, W1.mh_lay, W1.mh_edit, W1.mh_drop, W1.mh_text, W1.mh_all_files, DL.kBl_e, DL.dChain, ↓W1.dLenD_e1, DL.dClear, DL.dListF_e1, ↓DL.dSortS_e1, ↓DL.dSortO_e1, ↓DL.dPop_e1, ↓DL.dPop_e2, DL.dRaiseP, DL.dListOf]); (repeat ((with_reducible refine DL.seq_r (fun R hR => ?_)); simp only [DL.dFz, ↓DL.onL_e1, DL.dTold, DL.dMethX, DL.dMakeX, DL.dForK, DL.dLcV, ↓DL.dMax2_e1, ↓DL.dMaxL_e1, DL.keyV_str, DL.cutD_tail, eq_self, Int.reduceEq, List.nil_append, List.cons_append, DL.ofs_eq, String.reduceEq, DL.inD_cons, DL.inD_nil, Bool.or_false, Bool.or_true, Bool.false_or, Bool.true_or, decide_true, decide_false, not_true_eq_false, not_false_eq_true, DL.dPar, ↓DL.kPar_e1, DL.dPar3, ↓DL.kPar3_e1, DL.dGet1, DL.dGet2, DL.dKGet2, DL.dAsg, DL.dVar, DL.dgName, DL.dgLst, DL.dgSub, List.length_cons, List.length_nil, List.set_cons_zero, List.set_cons_succ, DL.dAnd, DL.dOr, DL.dNot, DL.dTest, DL.dTrue, DL.dOp, DL.dCB, DL.dACons, DL.dANil, DL.dInQ, DL.dIxQ, DL.dAug, DL.dC, DL.dRet, DL.dRetF, DL.dRetN, DL.dSl, DL.dPart, DL.dNoPart, DL.dIf, DL.dIfS, DL.dTup, DL.dLstF, DL.dLstO, DL.dDrop, DL.dNever, DL.dNext, DL.dBreak, DL.dCont, DL.dFor, DL.dILst, DL.dITup, DL.dIStr, DL.dIRng1, DL.dIRng2, DL.dIEnum, DL.dIZip, DL.dBM, DL.dBM0, DL.dCall, DL.dFld, DL.dSFld, DL.dSFldI, DL.dMeth, DL.dMake, DL.dRaise, DL.dXf, DL.dEqL, ↓DL.dStrip_e1, ↓DL.onX_e1, DL.dCallX, ↓DL.onI_e1, DL.dAddO, DL.dMulO, ↓DL.kMulO_e1, DL.dLcO, DL.dAndV, DL.dOrV, DL.dNotV, DL.dNeg, DL.dDix, DL.dDin, DL.dDisp, DL.dDispF, DL.dDNew, DL.dLc, DL.dLc2, DL.bind1, DL.dYes, DL.dFrz, List.map_cons, List.map_nil, List.getElem?_cons_succ, List.getElem?_cons_zero, DL.atI_0, DL.atI_1, DL.atI_2, DL.atI_3, DL.atI_4, DL.atI_5, DL.atI_6, DL.atI_7, DL.ixN_0, DL.ixN_1, DL.ixN_2, DL.ixN_3, DL.oset_same, DL.oset_oset, DL.tl_one, DL.tl_ofL, TL.len_tl, DL.atI_nat_, Bool.false_eq_true, Bool.true_eq_false, Bool.not_false, Bool.not_true, if_true, if_false, decide_eq_true_eq, Bool.not_eq_true', Bool.not_eq_true, decide_eq_false_iff_not, Option.isSome_some, Option.isSome_none, List.all_cons, List.all_nil, Bool.and_self, Bool.true_and, Bool.and_true, ↓reduceIte, and_true, true_and, Nat.zero_add, Nat.reduceAdd, Nat.reduceLeDiff, ↓DL.onSome_e1, ↓DL.onL_e1, ↓DL.lstQ_e1, ↓DL.lstQ_e2, ↓DL.seqQ_e1, ↓DL.seqQ_e2, ↓DL.seqQ_e3, ↓DL.seqQ_e4, ↓DL.seqQ_e5, ↓DL.sqlQ_e1, ↓DL.sqlQ_e2, ↓DL.sqlQ_e3, ↓DL.onK_e1, ↓DL.onT_e1, ↓DL.dkQ_e1, ↓DL.dkQ_e2, ↓DL.dtQ_e1, ↓DL.dtQ_e2, ↓DL.findQ_e1, ↓DL.findQ_e2, ↓DL.findQ_e3, ↓DL.dAdd_e1, ↓DL.dAdd_e2, ↓DL.dAdd_e3, ↓DL.dAdd_e4, ↓DL.dAdd_e5, ↓DL.dAdd_e6, ↓DL.dAdd_e7, ↓DL.dI2_e1, ↓DL.dSub_e1, ↓DL.dCmpI_e1, ↓DL.dEq_e1, ↓DL.dEq_e2, ↓DL.dEq_e3, ↓DL.dEq_e4, ↓DL.dEq_e5, ↓DL.dEq_e6, ↓DL.dEq_e7, ↓DL.dEq_e8, ↓DL.dEq_e9, ↓DL.dEq_e10, ↓DL.dEq_e11, ↓DL.dEq_e12, ↓DL.dEq_e13, ↓DL.dEq_e14, ↓DL.dEq_e15, ↓DL.dIsN_e1, DL.isNon_e1, ↓DL.dInS_e1, ↓DL.dIn_e1, ↓DL.dIn_e2, ↓DL.dIn_e3, ↓DL.dIn_e4, ↓DL.dIn_e5, ↓DL.dIn_e6, ↓DL.dInK_e1, ↓DL.dIx_e1, ↓DL.dIx_e2, ↓DL.dIx_e3, ↓DL.dIx_e4, ↓DL.dIx_e5, ↓DL.dIx_e6, ↓DL.kBl_e1, ↓DL.kInt_e1, ↓DL.kTru_e1, ↓DL.kTru_e2, ↓DL.kTru_e3, ↓DL.kTru_e4, ↓DL.kTru_e5, ↓DL.kTru_e6, ↓DL.kTru_e7, ↓DL.kTru_e8, ↓DL.kTru_e9, ↓DL.kRef_e1, ↓DL.kLst_e1, ↓DL.kLst_e2, ↓DL.kTup_e1, ↓DL.kTup_e2, ↓DL.kStr_e1, ↓DL.kRng1_e1, ↓DL.kRng2_e1, ↓DL.kEnum_e1, ↓DL.kEnum_e2, ↓DL.kZip_e1, ↓DL.frzC_e1, ↓DL.frzC_e2, ↓DL.frzC_e3, ↓DL.dSlR_e1, ↓DL.dSlR_e2, ↓DL.dSlR_e3, ↓DL.dSlR_e4, ↓DL.dSlR_e5, ↓DL.dLen_e1, ↓DL.dLen_e2, ↓DL.dLen_e3, ↓DL.dLen_e4, ↓DL.dLen_e5, ↓DL.dLen_e6, ↓DL.dInt_e1, ↓DL.dInt_e2, ↓DL.dInt_e3, ↓DL.dStrI_e1, ↓DL.dIsi_e1, DL.tyName_e1, DL.tyName_e2, DL.tyName_e3, DL.tyName_e4, DL.tyName_e5, DL.tyName_e6, DL.tyName_e7, DL.tyName_e8, DL.tyName_e9, DL.tyName_e10, ↓DL.dApp_e1, ↓DL.dJoin_e1, ↓DL.dSplit_e1, ↓DL.dgNil_e1, ↓DL.dgCons_e1, ↓DL.dgTup_e1, ↓DL.dSetL_e1, ↓DL.dSetD_e1, ↓DL.dSetD_e2, ↓DL.dSetD_e3, ↓DL.dIAdd_e1, ↓DL.dIAdd_e2, ↓DL.dISub_e1, ↓DL.apart_e1, ↓DL.dUpd_e1, ↓DL.dMulS_e1, ↓DL.dInL_e1, ↓DL.endLc_e1, ↓DL.endLc_e2, DL.bindN_e1, DL.setAll_e1, DL.setAll_e2, DL.mTy_e1, DL.mTy_e2, DL.mTy_e3, DL.mTy_e4, DL.strsOf_e1, DL.strsOf_e2, DL.keyD_e1, DL.keyD_e2, DL.keysD_e1, DL.keysD_e2, ↓DL.forW_e1, ↓DL.forW_e2, ↓DL.lcW_e1, ↓DL.lcW_e2, ↓DL.lcG_e1, ↓DL.lcG_e2, ↓DL.lc2W_e1, ↓DL.lc2W_e2, ↓DL.dPairs_e1, ↓DL.dPairs_e2, DL.kvsOf_e1, DL.kvsOf_e2, DL.slot_e1, DL.slot_e2, DL.dwipe_e1, DL.dwipe_e2, DL.enumD_e1, DL.enumD_e2, DL.zipD_e1, DL.dstart_e1, DL.dstart_e2, DL.dstart_e3, DL.flatD_e1, DL.flatD_e2, DL.flatD_e3, DL.flatD_e4, DL.eqF_e1, DL.eqF_e2, DL.eqF_e3, DL.eqF_e4, DL.eqF_e5, DL.eqF_e6, ↓DL.dTupOf_e1, ↓DL.dTupOf_e2, ↓DL.dTupOf_e3, ↓DL.dListOf_e1, ↓DL.dMin2_e1, ↓DL.dExt_e1, ↓DL.dMulL_e1, ↓DL.dIsD_e1, ↓DL.dIsD_e2, ↓DL.dIsD_e3, ↓DL.dSortD_e1, ↓DL.kStr1_e1, DL.klook_e1, ↓DL.dVar_n0, ↓DL.dgName_n0, ↓DL.obind_n0, ↓DL.oslot_n0, ↓DL.dVar_n1, ↓DL.dgName_n1, ↓DL.obind_n1, ↓DL.oslot_n1, ↓DL.dVar_n2, ↓DL.dgName_n2, ↓DL.obind_n2, ↓DL.oslot_n2, ↓DL.dVar_n3, ↓DL.dgName_n3, ↓DL.obind_n3, ↓DL.oslot_n3, ↓DL.dVar_n4, ↓DL.dgName_n4, ↓DL.obind_n4, ↓DL.oslot_n4, ↓DL.dVar_n5, ↓DL.dgName_n5, ↓DL.obind_n5, ↓DL.oslot_n5, ↓DL.dVar_n6, ↓DL.dgName_n6, ↓DL.obind_n6, ↓DL.oslot_n6, ↓DL.dVar_n7, ↓DL.dgName_n7, ↓DL.obind_n7, ↓DL.oslot_n7, ↓DL.dVar_n8, ↓DL.dgName_n8, ↓DL.obind_n8, ↓DL.oslot_n8, ↓DL.dVar_n9, ↓DL.dgName_n9, ↓DL.obind_n9, ↓DL.oslot_n9, ↓DL.dVar_n10, ↓DL.dgName_n10, ↓DL.obind_n10, ↓DL.oslot_n10, ↓DL.dVar_n11, ↓DL.dgName_n11, ↓DL.obind_n11, ↓DL.oslot_n11, ↓DL.dVar_n12, ↓DL.dgName_n12, ↓DL.obind_n12, ↓DL.oslot_n12, ↓DL.dVar_n13, ↓DL.dgName_n13, ↓DL.obind_n13, ↓DL.oslot_n13, ↓DL.dVar_n14, ↓DL.dgName_n14, ↓DL.obind_n14, ↓DL.oslot_n14, ↓DL.dVar_n15, ↓DL.dgName_n15, ↓DL.obind_n15, ↓DL.oslot_n15, ↓DL.dVar_n16, ↓DL.dgName_n16, ↓DL.obind_n16, ↓DL.oslot_n16, ↓DL.dVar_n17, ↓DL.dgName_n17, ↓DL.obind_n17, ↓DL.oslot_n17, ↓DL.dVar_n18, ↓DL.dgName_n18, ↓DL.obind_n18, ↓DL.oslot_n18, ↓DL.dVar_n19, ↓DL.dgName_n19, ↓DL.obind_n19, ↓DL.oslot_n19, ↓DL.dVar_n20, ↓DL.dgName_n20, ↓DL.obind_n20, ↓DL.oslot_n20, ↓DL.dVar_n21, ↓DL.dgName_n21, ↓DL.obind_n21, ↓DL.oslot_n21, ↓DL.dVar_n22, ↓DL.dgName_n22, ↓DL.obind_n22, ↓DL.oslot_n22, ↓DL.dVar_n23, ↓DL.dgName_n23, ↓DL.obind_n23, ↓DL.oslot_n23, ↓DL.dVar_n24, ↓DL.dgName_n24, ↓DL.obind_n24, ↓DL.oslot_n24, ↓DL.dVar_n25, ↓DL.dgName_n25, ↓DL.obind_n25, ↓DL.oslot_n25, ↓DL.dVar_n26, ↓DL.dgName_n26, ↓DL.obind_n26, ↓DL.oslot_n26, ↓DL.dVar_n27, ↓DL.dgName_n27, ↓DL.obind_n27, ↓DL.oslot_n27, ↓DL.dVar_n28, ↓DL.dgName_n28, ↓DL.obind_n28, ↓DL.oslot_n28, ↓DL.dVar_n29, ↓DL.dgName_n29, ↓DL.obind_n29, ↓DL.oslot_n29, ↓DL.isiM_int, ↓DL.subTy_NoneType_int, ↓DL.subTy_bool_int, ↓DL.subTy_int_int, ↓DL.subTy_str_int, ↓DL.subTy_tuple_int, ↓DL.subTy_list_int, ↓DL.subTy_dict_int, ↓DL.isiM_str, ↓DL.subTy_NoneType_str, ↓DL.subTy_bool_str, ↓DL.subTy_int_str, ↓DL.subTy_str_str, ↓DL.subTy_tuple_str, ↓DL.subTy_list_str, ↓DL.subTy_dict_str, ↓DL.isiM_bool, ↓DL.subTy_NoneType_bool, ↓DL.subTy_bool_bool, ↓DL.subTy_int_bool, ↓DL.subTy_str_bool, ↓DL.subTy_tuple_bool, ↓DL.subTy_list_bool, ↓DL.subTy_dict_bool, ↓DL.isiM_list, ↓DL.subTy_NoneType_list, ↓DL.subTy_bool_list, ↓DL.subTy_int_list, ↓DL.subTy_str_list, ↓DL.subTy_tuple_list, ↓DL.subTy_list_list, ↓DL.subTy_dict_list, ↓DL.isiM_tuple, ↓DL.subTy_NoneType_tuple, ↓DL.subTy_bool_tuple, ↓DL.subTy_int_tuple, ↓DL.subTy_str_tuple, ↓DL.subTy_tuple_tuple, ↓DL.subTy_list_tuple, ↓DL.subTy_dict_tuple, ↓DL.isiM_dict, ↓DL.subTy_NoneType_dict, ↓DL.subTy_bool_dict, ↓DL.subTy_int_dict, ↓DL.subTy_str_dict, ↓DL.subTy_tuple_dict, ↓DL.subTy_list_dict, ↓DL.subTy_dict_dict, ↓DL.isNon_tup, ↓DL.isNon_lst, ↓DL.isNon_stup, ↓DL.isNon_slst, ↓DL.isNon_str, ↓DL.isNon_int, ↓DL.isNon_bl, ↓DL.isNon_ref, ↓DL.isNon_dK, ↓DL.isNon_dT, W1.lu_texts, W1.sc_len, DL.dLeS, W1.mh_need, W1.mh_lay, W1.mh_edit, W1.mh_drop, W1.mh_text, W1.mh_all_files, DL.kBl_e, DL.dChain, ↓W1.dLenD_e1, DL.dClear, DL.dListF_e1, ↓DL.dSortS_e1, ↓DL.dSortO_e1, ↓DL.dPop_e1, ↓DL.dPop_e2, DL.dRaiseP, DL.dListOf]; subst hR)); (try simp only [DL.dFz, ↓DL.onL_e1, DL.dTold, DL.dMethX, DL.dMakeX, DL.dForK, DL.dLcV, ↓DL.dMax2_e1, ↓DL.dMaxL_e1, DL.keyV_str, DL.cutD_tail, eq_self, Int.reduceEq, List.nil_append, List.cons_append, DL.ofs_eq, String.reduceEq, DL.inD_cons, DL.inD_nil, Bool.or_false, Bool.or_true, Bool.false_or, Bool.true_or, decide_true, decide_false, not_true_eq_false, not_false_eq_true, DL.dPar, ↓DL.kPar_e1, DL.dPar3, ↓DL.kPar3_e1, DL.dGet1, DL.dGet2, DL.dKGet2, DL.dAsg, DL.dVar, DL.dgName, DL.dgLst, DL.dgSub, List.length_cons, List.length_nil, List.set_cons_zero, List.set_cons_succ, DL.dAnd, DL.dOr, DL.dNot, DL.dTest, DL.dTrue, DL.dOp, DL.dCB, DL.dACons, DL.dANil, DL.dInQ, DL.dIxQ, DL.dAug, DL.dC, DL.dRet, DL.dRetF, DL.dRetN, DL.dSl, DL.dPart, DL.dNoPart, DL.dIf, DL.dIfS, DL.dTup, DL.dLstF, DL.dLstO, DL.dDrop, DL.dNever, DL.dNext, DL.dBreak, DL.dCont, DL.dFor, DL.dILst, DL.dITup, DL.dIStr, DL.dIRng1, DL.dIRng2, DL.dIEnum, DL.dIZip, DL.dBM, DL.dBM0, DL.dCall, DL.dFld, DL.dSFld, DL.dSFldI, DL.dMeth, DL.dMake, DL.dRaise, DL.dXf, DL.dEqL, ↓DL.dStrip_e1, ↓DL.onX_e1, DL.dCallX, ↓DL.onI_e1, DL.dAddO, DL.dMulO, ↓DL.kMulO_e1, DL.dLcO, DL.dAndV, DL.dOrV, DL.dNotV, DL.dNeg, DL.dDix, DL.dDin, DL.dDisp, DL.dDispF, DL.dDNew, DL.dLc, DL.dLc2, DL.bind1, DL.dYes, DL.dFrz, List.map_cons, List.map_nil, List.getElem?_cons_succ, List.getElem?_cons_zero, DL.atI_0, DL.atI_1, DL.atI_2, DL.atI_3, DL.atI_4, DL.atI_5, DL.atI_6, DL.atI_7, DL.ixN_0, DL.ixN_1, DL.ixN_2, DL.ixN_3, DL.oset_same, DL.oset_oset, DL.tl_one, DL.tl_ofL, TL.len_tl, DL.atI_nat_, Bool.false_eq_true, Bool.true_eq_false, Bool.not_false, Bool.not_true, if_true, if_false, decide_eq_true_eq, Bool.not_eq_true', Bool.not_eq_true, decide_eq_false_iff_not, Option.isSome_some, Option.isSome_none, List.all_cons, List.all_nil, Bool.and_self, Bool.true_and, Bool.and_true, ↓reduceIte, and_true, true_and, Nat.zero_add, Nat.reduceAdd, Nat.reduceLeDiff, ↓DL.onSome_e1, ↓DL.onL_e1, ↓DL.lstQ_e1, ↓DL.lstQ_e2, ↓DL.seqQ_e1, ↓DL.seqQ_e2, ↓DL.seqQ_e3, ↓DL.seqQ_e4, ↓DL.seqQ_e5, ↓DL.sqlQ_e1, ↓DL.sqlQ_e2, ↓DL.sqlQ_e3, ↓DL.onK_e1, ↓DL.onT_e1, ↓DL.dkQ_e1, ↓DL.dkQ_e2, ↓DL.dtQ_e1, ↓DL.dtQ_e2, ↓DL.findQ_e1, ↓DL.findQ_e2, ↓DL.findQ_e3, ↓DL.dAdd_e1, ↓DL.dAdd_e2, ↓DL.dAdd_e3, ↓DL.dAdd_e4, ↓DL.dAdd_e5, ↓DL.dAdd_e6, ↓DL.dAdd_e7, ↓DL.dI2_e1, ↓DL.dSub_e1, ↓DL.dCmpI_e1, ↓DL.dEq_e1, ↓DL.dEq_e2, ↓DL.dEq_e3, ↓DL.dEq_e4, ↓DL.dEq_e5, ↓DL.dEq_e6, ↓DL.dEq_e7, ↓DL.dEq_e8, ↓DL.dEq_e9, ↓DL.dEq_e10, ↓DL.dEq_e11, ↓DL.dEq_e12, ↓DL.dEq_e13, ↓DL.dEq_e14, ↓DL.dEq_e15, ↓DL.dIsN_e1, DL.isNon_e1, ↓DL.dInS_e1, ↓DL.dIn_e1, ↓DL.dIn_e2, ↓DL.dIn_e3, ↓DL.dIn_e4, ↓DL.dIn_e5, ↓DL.dIn_e6, ↓DL.dInK_e1, ↓DL.dIx_e1, ↓DL.dIx_e2, ↓DL.dIx_e3, ↓DL.dIx_e4, ↓DL.dIx_e5, ↓DL.dIx_e6, ↓DL.kBl_e1, ↓DL.kInt_e1, ↓DL.kTru_e1, ↓DL.kTru_e2, ↓DL.kTru_e3, ↓DL.kTru_e4, ↓DL.kTru_e5, ↓DL.kTru_e6, ↓DL.kTru_e7, ↓DL.kTru_e8, ↓DL.kTru_e9, ↓DL.kRef_e1, ↓DL.kLst_e1, ↓DL.kLst_e2, ↓DL.kTup_e1, ↓DL.kTup_e2, ↓DL.kStr_e1, ↓DL.kRng1_e1, ↓DL.kRng2_e1, ↓DL.kEnum_e1, ↓DL.kEnum_e2, ↓DL.kZip_e1, ↓DL.frzC_e1, ↓DL.frzC_e2, ↓DL.frzC_e3, ↓DL.dSlR_e1, ↓DL.dSlR_e2, ↓DL.dSlR_e3, ↓DL.dSlR_e4, ↓DL.dSlR_e5, ↓DL.dLen_e1, ↓DL.dLen_e2, ↓DL.dLen_e3, ↓DL.dLen_e4, ↓DL.dLen_e5, ↓DL.dLen_e6, ↓DL.dInt_e1, ↓DL.dInt_e2, ↓DL.dInt_e3, ↓DL.dStrI_e1, ↓DL.dIsi_e1, DL.tyName_e1, DL.tyName_e2, DL.tyName_e3, DL.tyName_e4, DL.tyName_e5, DL.tyName_e6, DL.tyName_e7, DL.tyName_e8, DL.tyName_e9, DL.tyName_e10, ↓DL.dApp_e1, ↓DL.dJoin_e1, ↓DL.dSplit_e1, ↓DL.dgNil_e1, ↓DL.dgCons_e1, ↓DL.dgTup_e1, ↓DL.dSetL_e1, ↓DL.dSetD_e1, ↓DL.dSetD_e2, ↓DL.dSetD_e3, ↓DL.dIAdd_e1, ↓DL.dIAdd_e2, ↓DL.dISub_e1, ↓DL.apart_e1, ↓DL.dUpd_e1, ↓DL.dMulS_e1, ↓DL.dInL_e1, ↓DL.endLc_e1, ↓DL.endLc_e2, DL.bindN_e1, DL.setAll_e1, DL.setAll_e2, DL.mTy_e1, DL.mTy_e2, DL.mTy_e3, DL.mTy_e4, DL.strsOf_e1, DL.strsOf_e2, DL.keyD_e1, DL.keyD_e2, DL.keysD_e1, DL.keysD_e2, ↓DL.forW_e1, ↓DL.forW_e2, ↓DL.lcW_e1, ↓DL.lcW_e2, ↓DL.lcG_e1, ↓DL.lcG_e2, ↓DL.lc2W_e1, ↓DL.lc2W_e2, ↓DL.dPairs_e1, ↓DL.dPairs_e2, DL.kvsOf_e1, DL.kvsOf_e2, DL.slot_e1, DL.slot_e2, DL.dwipe_e1, DL.dwipe_e2, DL.enumD_e1, DL.enumD_e2, DL.zipD_e1, DL.dstart_e1, DL.dstart_e2, DL.dstart_e3, DL.flatD_e1, DL.flatD_e2, DL.flatD_e3, DL.flatD_e4, DL.eqF_e1, DL.eqF_e2, DL.eqF_e3, DL.eqF_e4, DL.eqF_e5, DL.eqF_e6, ↓DL.dTupOf_e1, ↓DL.dTupOf_e2, ↓DL.dTupOf_e3, ↓DL.dListOf_e1, ↓DL.dMin2_e1, ↓DL.dExt_e1, ↓DL.dMulL_e1, ↓DL.dIsD_e1, ↓DL.dIsD_e2, ↓DL.dIsD_e3, ↓DL.dSortD_e1, ↓DL.kStr1_e1, DL.klook_e1, ↓DL.dVar_n0, ↓DL.dgName_n0, ↓DL.obind_n0, ↓DL.oslot_n0, ↓DL.dVar_n1, ↓DL.dgName_n1, ↓DL.obind_n1, ↓DL.oslot_n1, ↓DL.dVar_n2, ↓DL.dgName_n2, ↓DL.obind_n2, ↓DL.oslot_n2, ↓DL.dVar_n3, ↓DL.dgName_n3, ↓DL.obind_n3, ↓DL.oslot_n3, ↓DL.dVar_n4, ↓DL.dgName_n4, ↓DL.obind_n4, ↓DL.oslot_n4, ↓DL.dVar_n5, ↓DL.dgName_n5, ↓DL.obind_n5, ↓DL.oslot_n5, ↓DL.dVar_n6, ↓DL.dgName_n6, ↓DL.obind_n6, ↓DL.oslot_n6, ↓DL.dVar_n7, ↓DL.dgName_n7, ↓DL.obind_n7, ↓DL.oslot_n7, ↓DL.dVar_n8, ↓DL.dgName_n8, ↓DL.obind_n8, ↓DL.oslot_n8, ↓DL.dVar_n9, ↓DL.dgName_n9, ↓DL.obind_n9, ↓DL.oslot_n9, ↓DL.dVar_n10, ↓DL.dgName_n10, ↓DL.obind_n10, ↓DL.oslot_n10, ↓DL.dVar_n11, ↓DL.dgName_n11, ↓DL.obind_n11, ↓DL.oslot_n11, ↓DL.dVar_n12, ↓DL.dgName_n12, ↓DL.obind_n12, ↓DL.oslot_n12, ↓DL.dVar_n13, ↓DL.dgName_n13, ↓DL.obind_n13, ↓DL.oslot_n13, ↓DL.dVar_n14, ↓DL.dgName_n14, ↓DL.obind_n14, ↓DL.oslot_n14, ↓DL.dVar_n15, ↓DL.dgName_n15, ↓DL.obind_n15, ↓DL.oslot_n15, ↓DL.dVar_n16, ↓DL.dgName_n16, ↓DL.obind_n16, ↓DL.oslot_n16, ↓DL.dVar_n17, ↓DL.dgName_n17, ↓DL.obind_n17, ↓DL.oslot_n17, ↓DL.dVar_n18, ↓DL.dgName_n18, ↓DL.obind_n18, ↓DL.oslot_n18, ↓DL.dVar_n19, ↓DL.dgName_n19, ↓DL.obind_n19, ↓DL.oslot_n19, ↓DL.dVar_n20, ↓DL.dgName_n20, ↓DL.obind_n20, ↓DL.oslot_n20, ↓DL.dVar_n21, ↓DL.dgName_n21, ↓DL.obind_n21, ↓DL.oslot_n21, ↓DL.dVar_n22, ↓DL.dgName_n22, ↓DL.obind_n22, ↓DL.oslot_n22, ↓DL.dVar_n23, ↓DL.dgName_n23, ↓DL.obind_n23, ↓DL.oslot_n23, ↓DL.dVar_n24, ↓DL.dgName_n24, ↓DL.obind_n24, ↓DL.oslot_n24, ↓DL.dVar_n25, ↓DL.dgName_n25, ↓DL.obind_n25, ↓DL.oslot_n25, ↓DL.dVar_n26, ↓DL.dgName_n26, ↓DL.obind_n26, ↓DL.oslot_n26, ↓DL.dVar_n27, ↓DL.dgName_n27, ↓DL.obind_n27, ↓DL.oslot_n27, ↓DL.dVar_n28, ↓DL.dgName_n28, ↓DL.obind_n28, ↓DL.oslot_n28, ↓DL.dVar_n29, ↓DL.dgName_n29, ↓DL.obind_n29, ↓DL.oslot_n29, ↓DL.isiM_int, ↓DL.subTy_NoneType_int, ↓DL.subTy_bool_int, ↓DL.subTy_int_int, ↓DL.subTy_str_int, ↓DL.subTy_tuple_int, ↓DL.subTy_list_int, ↓DL.subTy_dict_int, ↓DL.isiM_str, ↓DL.subTy_NoneType_str, ↓DL.subTy_bool_str, ↓DL.subTy_int_str, ↓DL.subTy_str_str, ↓DL.subTy_tuple_str, ↓DL.subTy_list_str, ↓DL.subTy_dict_str, ↓DL.isiM_bool, ↓DL.subTy_NoneType_bool, ↓DL.subTy_bool_bool, ↓DL.subTy_int_bool, ↓DL.subTy_str_bool, ↓DL.subTy_tuple_bool, ↓DL.subTy_list_bool, ↓DL.subTy_dict_bool, ↓DL.isiM_list, ↓DL.subTy_NoneType_list, ↓DL.subTy_bool_list, ↓DL.subTy_int_list, ↓DL.subTy_str_list, ↓DL.subTy_tuple_list, ↓DL.subTy_list_list, ↓DL.subTy_dict_list, ↓DL.isiM_tuple, ↓DL.subTy_NoneType_tuple, ↓DL.subTy_bool_tuple, ↓DL.subTy_int_tuple, ↓DL.subTy_str_tuple, ↓DL.subTy_tuple_tuple, ↓DL.subTy_list_tuple, ↓DL.subTy_dict_tuple, ↓DL.isiM_dict, ↓DL.subTy_NoneType_dict, ↓DL.subTy_bool_dict, ↓DL.subTy_int_dict, ↓DL.subTy_str_dict, ↓DL.subTy_tuple_dict, ↓DL.subTy_list_dict, ↓DL.subTy_dict_dict, ↓DL.isNon_tup, ↓DL.isNon_lst, ↓DL.isNon_stup, ↓DL.isNon_slst, ↓DL.isNon_str, ↓DL.isNon_int, ↓DL.isNon_bl, ↓DL.isNon_ref, ↓DL.isNon_dK, ↓DL.isNon_dT, W1.lu_texts, W1.sc_len, DL.dLeS, W1.mh_need, W1.mh_lay, W1.mh_edit, W1.mh_drop, W1.mh_text, W1.mh_all_files, DL.kBl_e, DL.dChain, ↓W1.dLenD_e1, DL.dClear, DL.dListF_e1, ↓DL.dSortS_e1, ↓DL.dSortO_e1, ↓DL.dPop_e1, ↓DL.dPop_e2, DL.dRaiseP, DL.dListOf])))
local macro_rules | `(tactic| walk_at "sz") => `(tactic| first | assumption | omega | exact ⟨by omega, by omega⟩ | exact Or.inl ⟨by omega, by omega⟩ | exact Or.inr ⟨by omega, by omega⟩ | exact ⟨by decide, by decide, by decide⟩ | (refine DL.line_of ?_; (try simp only [len_tl, DL.app_len, List.length_map, List.length_append, List.length_cons, List.length_nil, lit0, lit1, lit2, lit3, lit4, lit5, lit6, lit7, lit8, lit9, lit10, lit11, lit12, lit13, lit14, lit15, lit16, lit17, lit18, lit19, lit20, lit21, lit22, lit23, lit24]); omega) | (refine DL.lc_line ?_; (try simp only [len_tl, DL.app_len, List.length_map, List.length_append, List.length_cons, List.length_nil, lit0, lit1, lit2, lit3, lit4, lit5, lit6, lit7, lit8, lit9, lit10, lit11, lit12, lit13, lit14, lit15, lit16, lit17, lit18, lit19, lit20, lit21, lit22, lit23, lit24]); omega) | ((try simp only [len_tl, DL.app_len, List.length_map, List.length_append, List.length_cons, List.length_nil, lit0, lit1, lit2, lit3, lit4, lit5, lit6, lit7, lit8, lit9, lit10, lit11, lit12, lit13, lit14, lit15, lit16, lit17, lit18, lit19, lit20, lit21, lit22, lit23, lit24]); omega))
local macro_rules | `(tactic| walk_at "go") => `(tactic| ((try (walk_at "ev")); (repeat ((with_reducible refine And.intro ?_ ?_); (walk_at "sz"); (try (walk_at "ev"))))))
def top (i : Nat) : Stmt := PySem.Challenge.pw_wholetongue_k19_files_laid_and_edited.main.body.getD i (.Pass ⟨0, 0, 0, 0⟩)
structure FnAt (K : PySem.W.Frag) (mg : Str → Option Value) (x : Str) (st : Stmt) (ps : List Str) (f : Addr) (fd : FuncData) : Prop where
  fn : Fun K x x st f fd
  bi : Binds K fd ps []
  mg : mg x = some (.ref f)
structure MtAt (K : PySem.W.Frag) (C : Addr) (m qual : Str) (st : Stmt) (ps : List Str) (f : Addr) (fd : FuncData) : Prop where
  fn : Fun K m qual st f fd
  bi : Binds K fd ps []
  mt : Meth K C m f
structure MkAt (K : PySem.W.Frag) (C : Addr) (m qual : Str) (st : Stmt) (ps : List Str) (n : Nat) (ks : List Str) (f : Addr) (fd : FuncData) : Prop where
  fn : Fun K m qual st f fd
  kw : KwEnd K fd ps n ks
  mt : Meth K C m f
structure InAt (K : PySem.W.Frag) (C : Addr) (qual : Str) (st : Stmt) (ps : List Str) (f : Addr) (fd : FuncData) : Prop where
  fn : Fun K "__init__" qual st f fd
  bi : Binds K fd ps []
  mkc : Mk K C f
structure ExAt (K : PySem.W.Frag) (C : Addr) (qual : Str) (st : Stmt) (ps : List Str) (f : Addr) (fd : FuncData) : Prop where
  fn : Fun K "__init__" qual st f fd
  bi : Binds K fd ps []
  ic : PySem.W.findIn K (.ref C) "__init__" = some (some (.ref f))
  ti : PySem.W.typeIn K (.ref f) = some (.type "function")
theorem bb_len : bootBuiltins "len" = some (.builtin "len") := by decide +kernel
theorem bb_list : bootBuiltins "list" = some (.type "list") := by decide +kernel
theorem bb_sorted : bootBuiltins "sorted" = some (.builtin "sorted") := by decide +kernel
theorem bb_int : bootBuiltins "int" = some (.type "int") := by decide +kernel
theorem bb_isinstance : bootBuiltins "isinstance" = some (.builtin "isinstance") := by decide +kernel
theorem bb_tuple : bootBuiltins "tuple" = some (.type "tuple") := by decide +kernel
theorem bb_bool : bootBuiltins "bool" = some (.type "bool") := by decide +kernel
theorem bb_str : bootBuiltins "str" = some (.type "str") := by decide +kernel
abbrev s__wall : Stmt := top 0
abbrev s_is_name : Stmt := top 13
abbrev N_is_name : List Str := ["word", "sign"]
theorem sc_is_name : FnScope N_is_name ["word"] (defScope s_is_name) := ⟨rfl, rfl, rfl, by decide +kernel, rfl, by decide +kernel, by decide +kernel⟩
abbrev s_is_text : Stmt := top 14
abbrev N_is_text : List Str := ["text", "bad", "sign"]
theorem sc_is_text : FnScope N_is_text ["text"] (defScope s_is_text) := ⟨rfl, rfl, rfl, by decide +kernel, rfl, by decide +kernel, by decide +kernel⟩
abbrev s_House___init__ : Stmt := inClass (top 16) 0
abbrev N_House___init__ : List Str := ["self"]
theorem sc_House___init__ : FnScope N_House___init__ ["self"] (defScope s_House___init__) := ⟨rfl, rfl, rfl, by decide +kernel, rfl, by decide +kernel, by decide +kernel⟩
abbrev s_House_need : Stmt := inClass (top 16) 1
abbrev N_House_need : List Str := ["self", "file"]
theorem sc_House_need : FnScope N_House_need ["self", "file"] (defScope s_House_need) := ⟨rfl, rfl, rfl, by decide +kernel, rfl, by decide +kernel, by decide +kernel⟩
abbrev s_House_lay : Stmt := inClass (top 16) 2
abbrev N_House_lay : List Str := ["self", "file", "text"]
theorem sc_House_lay : FnScope N_House_lay ["self", "file", "text"] (defScope s_House_lay) := ⟨rfl, rfl, rfl, by decide +kernel, rfl, by decide +kernel, by decide +kernel⟩
abbrev s_House_edit : Stmt := inClass (top 16) 3
abbrev N_House_edit : List Str := ["self", "file", "row", "many", "rows", "olds", "one"]
theorem sc_House_edit : FnScope N_House_edit ["self", "file", "row", "many", "rows"] (defScope s_House_edit) := ⟨rfl, rfl, rfl, by decide +kernel, rfl, by decide +kernel, by decide +kernel⟩
abbrev s_House_drop : Stmt := inClass (top 16) 4
abbrev N_House_drop : List Str := ["self", "file"]
theorem sc_House_drop : FnScope N_House_drop ["self", "file"] (defScope s_House_drop) := ⟨rfl, rfl, rfl, by decide +kernel, rfl, by decide +kernel, by decide +kernel⟩
abbrev s_House_text : Stmt := inClass (top 16) 5
abbrev N_House_text : List Str := ["self", "file"]
theorem sc_House_text : FnScope N_House_text ["self", "file"] (defScope s_House_text) := ⟨rfl, rfl, rfl, by decide +kernel, rfl, by decide +kernel, by decide +kernel⟩
abbrev s_House_all_files : Stmt := inClass (top 16) 6
abbrev N_House_all_files : List Str := ["self"]
theorem sc_House_all_files : FnScope N_House_all_files ["self"] (defScope s_House_all_files) := ⟨rfl, rfl, rfl, by decide +kernel, rfl, by decide +kernel, by decide +kernel⟩
abbrev s_House_make : Stmt := inClass (top 16) 7
abbrev s_House_faces : Stmt := inClass (top 16) 8
abbrev s_House_image : Stmt := inClass (top 16) 9
abbrev s_House_need_made : Stmt := inClass (top 16) 10
abbrev s__law_dice : Stmt := top 18
abbrev N__law_dice : List Str := ["_law_script", "_law_mixed", "_law_cell"]
theorem sc__law_dice : FnScope N__law_dice ["_law_script"] (defScope s__law_dice) := ⟨rfl, rfl, rfl, by decide +kernel, rfl, by decide +kernel, by decide +kernel⟩
abbrev s__law_next : Stmt := top 19
abbrev N__law_next : List Str := ["_law_dice_here", "_law_many", "_law_found", "_law_cell"]
theorem sc__law_next : FnScope N__law_next ["_law_dice_here", "_law_many"] (defScope s__law_next) := ⟨rfl, rfl, rfl, by decide +kernel, rfl, by decide +kernel, by decide +kernel⟩
abbrev s__law_like : Stmt := top 20
abbrev N__law_like : List Str := ["_law_found", "_law_due", "_law_k"]
theorem sc__law_like : FnScope N__law_like ["_law_found", "_law_due"] (defScope s__law_like) := ⟨rfl, rfl, rfl, by decide +kernel, rfl, by decide +kernel, by decide +kernel⟩
abbrev s__law_pick : Stmt := top 21
abbrev N__law_pick : List Str := ["_law_d", "_law_some"]
theorem sc__law_pick : FnScope N__law_pick ["_law_d", "_law_some"] (defScope s__law_pick) := ⟨rfl, rfl, rfl, by decide +kernel, rfl, by decide +kernel, by decide +kernel⟩
abbrev s__law_told : Stmt := top 22
abbrev N__law_told : List Str := ["_law_work", "e", "_law_some"]
theorem sc__law_told : FnScope N__law_told ["_law_work"] (defScope s__law_told) := ⟨rfl, rfl, rfl, by decide +kernel, rfl, by decide +kernel, by decide +kernel⟩
abbrev s__law_edited : Stmt := top 23
abbrev N__law_edited : List Str := ["_law_house", "_law_texts", "_law_file", "_law_row", "_law_many", "_law_more", "_law_olds", "_law_rows", "_law_news", "_law_due", "_law_handed", "_law_found", "_law_one"]
theorem sc__law_edited : FnScope N__law_edited ["_law_house", "_law_texts", "_law_file", "_law_row", "_law_many", "_law_more"] (defScope s__law_edited) := ⟨rfl, rfl, rfl, by decide +kernel, rfl, by decide +kernel, by decide +kernel⟩
abbrev s_law : Stmt := top 24
abbrev N_law : List Str := ["_law_script", "_law_d", "_law_house", "_law_texts", "_law_turn", "_law_file", "_law_way", "_law_size", "_law_rows", "_law_text", "_law_other", "_law_good", "_law_due", "_law_found", "_law_olds", "_law_row", "_law_many", "_law_more", "_law_k"]
theorem sc_law : FnScope N_law ["_law_script"] (defScope s_law) := ⟨rfl, rfl, rfl, by decide +kernel, rfl, by decide +kernel, by decide +kernel⟩
structure Tx (K : PySem.W.Frag) (w : World) (mg : Str → Option Value) where
  f__wall : Addr
  d__wall : FuncData
  t__wall : FnAt K mg "_wall" s__wall ["k"] f__wall d__wall
  f_is_name : Addr
  d_is_name : FuncData
  t_is_name : FnAt K mg "is_name" s_is_name ["word"] f_is_name d_is_name
  f_is_text : Addr
  d_is_text : FuncData
  t_is_text : FnAt K mg "is_text" s_is_text ["text"] f_is_text d_is_text
  c_House : Addr
  cl_House : Cls K c_House
  cm_House : mg "House" = some (.ref c_House)
  na_House_texts : NoAttr K c_House "texts"
  na_House_made_of : NoAttr K c_House "made_of"
  na_House_shown : NoAttr K c_House "shown"
  na_House_laid : NoAttr K c_House "laid"
  f_House___init__ : Addr
  d_House___init__ : FuncData
  t_House___init__ : InAt K c_House "House.__init__" s_House___init__ ["self"] f_House___init__ d_House___init__
  f_House_need : Addr
  d_House_need : FuncData
  t_House_need : MtAt K c_House "need" "House.need" s_House_need ["self", "file"] f_House_need d_House_need
  f_House_lay : Addr
  d_House_lay : FuncData
  t_House_lay : MtAt K c_House "lay" "House.lay" s_House_lay ["self", "file", "text"] f_House_lay d_House_lay
  f_House_edit : Addr
  d_House_edit : FuncData
  t_House_edit : MtAt K c_House "edit" "House.edit" s_House_edit ["self", "file", "row", "many", "rows"] f_House_edit d_House_edit
  f_House_drop : Addr
  d_House_drop : FuncData
  t_House_drop : MtAt K c_House "drop" "House.drop" s_House_drop ["self", "file"] f_House_drop d_House_drop
  f_House_text : Addr
  d_House_text : FuncData
  t_House_text : MtAt K c_House "text" "House.text" s_House_text ["self", "file"] f_House_text d_House_text
  f_House_all_files : Addr
  d_House_all_files : FuncData
  t_House_all_files : MtAt K c_House "all_files" "House.all_files" s_House_all_files ["self"] f_House_all_files d_House_all_files
  f_House_make : Addr
  d_House_make : FuncData
  t_House_make : MtAt K c_House "make" "House.make" s_House_make ["self"] f_House_make d_House_make
  f_House_faces : Addr
  d_House_faces : FuncData
  t_House_faces : MtAt K c_House "faces" "House.faces" s_House_faces ["self"] f_House_faces d_House_faces
  f_House_image : Addr
  d_House_image : FuncData
  t_House_image : MtAt K c_House "image" "House.image" s_House_image ["self"] f_House_image d_House_image
  f_House_need_made : Addr
  d_House_need_made : FuncData
  t_House_need_made : MtAt K c_House "need_made" "House.need_made" s_House_need_made ["self"] f_House_need_made d_House_need_made
  f__law_dice : Addr
  d__law_dice : FuncData
  t__law_dice : FnAt K mg "_law_dice" s__law_dice ["_law_script"] f__law_dice d__law_dice
  f__law_next : Addr
  d__law_next : FuncData
  t__law_next : FnAt K mg "_law_next" s__law_next ["_law_dice_here", "_law_many"] f__law_next d__law_next
  f__law_like : Addr
  d__law_like : FuncData
  t__law_like : FnAt K mg "_law_like" s__law_like ["_law_found", "_law_due"] f__law_like d__law_like
  f__law_pick : Addr
  d__law_pick : FuncData
  t__law_pick : FnAt K mg "_law_pick" s__law_pick ["_law_d", "_law_some"] f__law_pick d__law_pick
  f__law_told : Addr
  d__law_told : FuncData
  t__law_told : FnAt K mg "_law_told" s__law_told ["_law_work"] f__law_told d__law_told
  f__law_edited : Addr
  d__law_edited : FuncData
  t__law_edited : FnAt K mg "_law_edited" s__law_edited ["_law_house", "_law_texts", "_law_file", "_law_row", "_law_many", "_law_more"] f__law_edited d__law_edited
  f_law : Addr
  d_law : FuncData
  t_law : FnAt K mg "law" s_law ["_law_script"] f_law d_law
  co__law_edited : Addr
  c_tb__law_edited : Addr
  hc__law_edited : d__law_edited.code = .ref co__law_edited
  co_law : Addr
  c_tb_law : Addr
  hc_law : d_law.code = .ref co_law
  n_len : mg "len" = none
  n_list : mg "list" = none
  n_sorted : mg "sorted" = none
  n_int : mg "int" = none
  n_isinstance : mg "isinstance" = none
  n_tuple : mg "tuple" = none
  n_bool : mg "bool" = none
  n_str : mg "str" = none
  n_range : mg "range" = none
  c_NoFile : Addr
  cm_NoFile : mg "NoFile" = some (.ref c_NoFile)
  xp_NoFile : PySem.W.excIn K c_NoFile DL.veB "ValueError.__new__" = true
  kp_NoFile : PySem.W.keepIn K (.ref c_NoFile) = true
  sb_NoFile : PySem.W.subIn K (.ref c_NoFile) (.type "BaseException") = some true
  tp_NoFile : PySem.W.typeIn K (.ref c_NoFile) = some (.type "type")
  te_NoFile : PySem.W.exmOne K (.ref c_NoFile) (.ref c_NoFile) = some true
  c_BadRows : Addr
  cm_BadRows : mg "BadRows" = some (.ref c_BadRows)
  xp_BadRows : PySem.W.excIn K c_BadRows DL.veB "ValueError.__new__" = true
  kp_BadRows : PySem.W.keepIn K (.ref c_BadRows) = true
  sb_BadRows : PySem.W.subIn K (.ref c_BadRows) (.type "BaseException") = some true
  tp_BadRows : PySem.W.typeIn K (.ref c_BadRows) = some (.type "type")
  te_BadRows : PySem.W.exmOne K (.ref c_BadRows) (.ref c_BadRows) = some true
  c_BadHouse : Addr
  cm_BadHouse : mg "BadHouse" = some (.ref c_BadHouse)
  xp_BadHouse : PySem.W.excIn K c_BadHouse DL.veB "ValueError.__new__" = true
  kp_BadHouse : PySem.W.keepIn K (.ref c_BadHouse) = true
  sb_BadHouse : PySem.W.subIn K (.ref c_BadHouse) (.type "BaseException") = some true
  tp_BadHouse : PySem.W.typeIn K (.ref c_BadHouse) = some (.type "type")
  te_BadHouse : PySem.W.exmOne K (.ref c_BadHouse) (.ref c_BadHouse) = some true
  c_Fault : Addr
  cm_Fault : mg "Fault" = some (.ref c_Fault)
  c_WholeError : Addr
  cm_WholeError : mg "WholeError" = some (.ref c_WholeError)
  c_NotMade : Addr
  cm_NotMade : mg "NotMade" = some (.ref c_NotMade)
  ec_BadHouse : L2.ExcC K c_BadHouse
  ec_BadRows : L2.ExcC K c_BadRows
  ec_NoFile : L2.ExcC K c_NoFile
  x0_BadHouse : PySem.W.exmOne K (.ref c_BadHouse) (.ref c_Fault) = some false
  x0_BadRows : PySem.W.exmOne K (.ref c_BadRows) (.ref c_Fault) = some false
  x0_NoFile : PySem.W.exmOne K (.ref c_NoFile) (.ref c_Fault) = some false
  x1_BadHouse : PySem.W.exmOne K (.ref c_BadHouse) (.ref c_WholeError) = some true
  x1_BadRows : PySem.W.exmOne K (.ref c_BadRows) (.ref c_WholeError) = some true
  x1_NoFile : PySem.W.exmOne K (.ref c_NoFile) (.ref c_WholeError) = some true
  ki_BadHouse_BadHouse : PySem.W.kitOne K (.ref c_BadHouse) (.ref c_BadHouse) = some true
  ki_BadHouse_BadRows : PySem.W.kitOne K (.ref c_BadHouse) (.ref c_BadRows) = some false
  ki_BadHouse_NoFile : PySem.W.kitOne K (.ref c_BadHouse) (.ref c_NoFile) = some false
  ki_BadHouse_NotMade : PySem.W.kitOne K (.ref c_BadHouse) (.ref c_NotMade) = some false
  ki_BadRows_BadHouse : PySem.W.kitOne K (.ref c_BadRows) (.ref c_BadHouse) = some false
  ki_BadRows_BadRows : PySem.W.kitOne K (.ref c_BadRows) (.ref c_BadRows) = some true
  ki_BadRows_NoFile : PySem.W.kitOne K (.ref c_BadRows) (.ref c_NoFile) = some false
  ki_BadRows_NotMade : PySem.W.kitOne K (.ref c_BadRows) (.ref c_NotMade) = some false
  ki_NoFile_BadHouse : PySem.W.kitOne K (.ref c_NoFile) (.ref c_BadHouse) = some false
  ki_NoFile_BadRows : PySem.W.kitOne K (.ref c_NoFile) (.ref c_BadRows) = some false
  ki_NoFile_NoFile : PySem.W.kitOne K (.ref c_NoFile) (.ref c_NoFile) = some true
  ki_NoFile_NotMade : PySem.W.kitOne K (.ref c_NoFile) (.ref c_NotMade) = some false
  z_LONG : Tok
  m_LONG : mg "LONG" = some (Value.int 6 z_LONG)
  z_LETTERS : Tok
  m_LETTERS : mg "LETTERS" = some (Value.str "abcdefghijklmnopqrstuvwxyz" z_LETTERS)
  z_MOST_ROWS : Tok
  m_MOST_ROWS : mg "MOST_ROWS" = some (Value.int 60 z_MOST_ROWS)
  z_MOST_FILES : Tok
  m_MOST_FILES : mg "MOST_FILES" = some (Value.int 8 z_MOST_FILES)
section
variable {P : Program} {w : World} {K : PySem.W.Frag} {mg : Str → Option Value} {base : Heap}
theorem Tx.e_LONG (T : Tx K w mg) {XW : DXK} {X : Cx} {pos : Pos} (h : X.mg = mg := by rfl) (hg : Gl X "LONG" := by rfl) : DE XW X (.Name "LONG" pos) (dC (.int 6)) := de_globI (by rw [h]; exact T.m_LONG) hg
theorem Tx.e_LETTERS (T : Tx K w mg) {XW : DXK} {X : Cx} {pos : Pos} (h : X.mg = mg := by rfl) (hg : Gl X "LETTERS" := by rfl) : DE XW X (.Name "LETTERS" pos) (dC (.str "abcdefghijklmnopqrstuvwxyz")) := de_globS (by rw [h]; exact T.m_LETTERS) hg
theorem Tx.e_MOST_ROWS (T : Tx K w mg) {XW : DXK} {X : Cx} {pos : Pos} (h : X.mg = mg := by rfl) (hg : Gl X "MOST_ROWS" := by rfl) : DE XW X (.Name "MOST_ROWS" pos) (dC (.int 60)) := de_globI (by rw [h]; exact T.m_MOST_ROWS) hg
theorem Tx.e_MOST_FILES (T : Tx K w mg) {XW : DXK} {X : Cx} {pos : Pos} (h : X.mg = mg := by rfl) (hg : Gl X "MOST_FILES" := by rfl) : DE XW X (.Name "MOST_FILES" pos) (dC (.int 8)) := de_globI (by rw [h]; exact T.m_MOST_FILES) hg
theorem DE_imp {XW : DXK} {X : Cx} {e : Expr} {t t' : DTE} (h : DE XW X e t) (i : ∀ S O Q, t' S O Q → t S O Q) : DE XW X e t' := ⟨fun g hg => PE_imp (h.pe g hg) (by
  rintro σ H VQ ⟨F, O, S, Q, rs, sr, h, fin⟩
  exact ⟨F, O, S, Q, rs, sr, i _ _ _ h, fin⟩)⟩
theorem dCount_e1 {xs : List DV} {y : DV} {O : Own} {Q : DVK} : dCount (.lst xs) [y] O Q = (flatD y = true ∧ xs.all flatD = true ∧ Q (.int (xs.countP fun z => eqF z y : Nat)) O) := rfl
theorem dIndex_e1 {xs : List DV} {y : DV} {O : Own} {Q : DVK} : dIndex (.lst xs) [y] O Q = (flatD y = true ∧ xs.all flatD = true ∧ ∃ (j : Nat) (z : DV), xs[j]? = some z ∧ eqF z y = true ∧ (∀ (m : Nat) (z' : DV), m < j → xs[m]? = some z' → eqF z' y = false) ∧ Q (.int (j : Nat)) O) := rfl
theorem cnt_0 : (List.countP (fun z => eqF z (.bl true)) [.bl true, .bl false, .bl false, .bl false] : Nat) = 1 := rfl
theorem cnt_1 : (List.countP (fun z => eqF z (.bl true)) [.bl false, .bl true, .bl false, .bl false] : Nat) = 1 := rfl
theorem cnt_2 : (List.countP (fun z => eqF z (.bl true)) [.bl false, .bl false, .bl true, .bl false] : Nat) = 1 := rfl
theorem ix_0 : ∀ (m : Nat) (z' : DV), m < 0 → ([.bl true, .bl false, .bl false, .bl false] : List DV)[m]? = some z' → eqF z' (.bl true) = false := fun m z h => by omega
theorem ix_1 : ∀ (m : Nat) (z' : DV), m < 1 → ([.bl false, .bl true, .bl false, .bl false] : List DV)[m]? = some z' → eqF z' (.bl true) = false := fun m z h e => by
  obtain rfl : m = 0 := by omega
  cases e; rfl
theorem ix_2 : ∀ (m : Nat) (z' : DV), m < 2 → ([.bl false, .bl false, .bl true, .bl false] : List DV)[m]? = some z' → eqF z' (.bl true) = false := fun m z h e => by
  have : m = 0 ∨ m = 1 := by omega
  rcases this with rfl | rfl <;> (cases e; rfl)
def dTell (TN : Addr → Str → Prop) (q : Str) (P : Addr) (tb : DXK → DTE) (S : DSt) (O : Own) (Q : DVK) : Prop := O P = some (.tbl q) ∧ ∃ XWb : DXK, tb XWb S O Q ∧ ∀ C' fs O', XWb C' fs O' → fs = none ∧ ∃ nm, TN C' nm ∧ Q (.tup [.str "refused", .str nm]) O'
def TC (T : Tx K w mg) (C' : Addr) (b : Addr × Str) : Prop := b.1 = C' ∧ TN T.c_BadHouse T.c_BadRows T.c_NoFile C' b.2
theorem tcE (T : Tx K w mg) {C' : Addr} {nm : Str} (h : TN T.c_BadHouse T.c_BadRows T.c_NoFile C' nm) : L2.ExcC K C' := by
  rcases h with ⟨rfl, _⟩ | ⟨rfl, _⟩ | ⟨rfl, _⟩
  · exact T.ec_BadHouse
  · exact T.ec_BadRows
  · exact T.ec_NoFile
theorem tcX (T : Tx K w mg) : ∀ C' b, TC T C' b → PySem.W.exmOne K (.ref C') (.ref T.c_Fault) = some false ∧ PySem.W.exmOne K (.ref C') (.ref T.c_WholeError) = some true := by
  rintro C' b ⟨_, h⟩
  rcases h with ⟨rfl, _⟩ | ⟨rfl, _⟩ | ⟨rfl, _⟩
  · exact ⟨T.x0_BadHouse, T.x1_BadHouse⟩
  · exact ⟨T.x0_BadRows, T.x1_BadRows⟩
  · exact ⟨T.x0_NoFile, T.x1_NoFile⟩
def toldSu (st : Stmt) : List Stmt := match defBody st with
  | [.Try _ [_, .ExceptHandler _ _ su _] _ _ _] => su
  | _ => []
theorem told_suite (T : Tx K w mg) : ∃ ts : Addr × Str → Addr → DTS,
    (∀ (k : Nat) (A : Around) (stack : List PySem.Env) (cdv : Value) (s : Shared) (H : Hp) (a : Addr) (oe : Obj) (C' : Addr) (b : Addr × Str) (pn : List (Addr × Obj)), Room (k + 2) A → TC T C' b → Zc (.ref C') none oe → (∃ vs, oe.data = .fields vs) → DSs X0 ((cxOf C8.CX0 P w K mg base N__law_told "_law_told" (defScope s__law_told) T.f__law_told cdv A stack s H C8.E0).nox.suite a ((a, oe) :: pn)) (toldSu s__law_told) (ts b a)) ∧
    (∀ (C' : Addr) (nm : Str) (a : Addr) (Q : DVK) (O : Own), TN T.c_BadHouse T.c_BadRows T.c_NoFile C' nm → Q (.tup [.str "refused", .str nm]) O → ts (C', nm) a { nx := fun _ _ => False, rt := Q } ((List.replicate 3 none).set 1 (some (.ref a))) O) := by
  refine' ⟨_, ?g1, ?g2⟩
  case g1 =>
    intro k A stack cdv s H a oe C' b pn hr ht hz hf
    obtain ⟨e, ht⟩ := ht
    subst e
    have nd := sc__law_told.nd
    have hu64 := (hr.deeper (envOfC "_law_told" (defScope s__law_told) s.heap.objs.size T.f__law_told cdv)).units
    have e0 : ∃ s1 s2, toldSu s__law_told = [s1, s2] := ⟨_, _, rfl⟩
    show DSs X0 _ [_, _] _
    refine' dss_cons ?h1 ?h2
    case h1 =>
      refine' ds_set 2 ?h3 nd
      exact (de_lstF (da_cons (de_callB (cd_isE2 (tcE T ht) hz hf) T.n_isinstance bb_isinstance (da_cons (dv 1) (da_cons (de_globR T.cm_BadHouse (fun _ => .ref _)) da_nil))) (da_cons (de_callB (cd_isE2 (tcE T ht) hz hf) T.n_isinstance bb_isinstance (da_cons (dv 1) (da_cons (de_globR T.cm_BadRows (fun _ => .ref _)) da_nil))) (da_cons (de_callB (cd_isE2 (tcE T ht) hz hf) T.n_isinstance bb_isinstance (da_cons (dv 1) (da_cons (de_globR T.cm_NoFile (fun _ => .ref _)) da_nil))) (da_cons (de_callB (cd_isE2 (tcE T ht) hz hf) T.n_isinstance bb_isinstance (da_cons (dv 1) (da_cons (de_globR T.cm_NotMade (fun _ => .ref _)) da_nil))) da_nil)))))
    case h2 => exact (dss_one (ds_ret (de_tup (da_cons de_str (da_cons (de_if (dt_cmp (od_eq hu64) (de_bm PySem.F.plainAttrs_list PySem.F.slot_list_count PySem.F.type_list_count md_count (dv 2) (da_cons de_bl da_nil)) de_int) (de_ix (de_lstF (da_cons de_str (da_cons de_str (da_cons de_str (da_cons de_str da_nil))))) (de_bm PySem.F.plainAttrs_list PySem.F.slot_list_index PySem.F.type_list_index md_index (dv 2) (da_cons de_bl da_nil))) de_str) da_nil)))))
  case g2 =>
    intro C' nm a Q O ht hq
    have rs3 : (List.replicate 3 none : DSt).set 1 (some (.ref a)) = [none, some (.ref a), none] := rfl
    rcases ht with ⟨rfl, rfl⟩ | ⟨rfl, rfl⟩ | ⟨rfl, rfl⟩
    · wp_walk using rs3
      refine ⟨rfl, _, T.ki_BadHouse_BadHouse, ?_⟩
      walk_at "go"
      refine ⟨rfl, _, T.ki_BadHouse_BadRows, ?_⟩
      walk_at "go"
      refine ⟨rfl, _, T.ki_BadHouse_NoFile, ?_⟩
      walk_at "go"
      refine ⟨rfl, _, T.ki_BadHouse_NotMade, ?_⟩
      walk_at "go"
      rw [dCount_e1]
      refine ⟨rfl, rfl, ?_⟩
      wp_walk using cnt_0
      rw [dIndex_e1]
      refine ⟨rfl, rfl, 0, .bl true, rfl, rfl, ix_0, ?_⟩
      refine seq_ix (xs := [.str "house", .str "rows", .str "file", .str "made"]) rfl (x := .str "house") rfl ?_
      exact hq
    · wp_walk using rs3
      refine ⟨rfl, _, T.ki_BadRows_BadHouse, ?_⟩
      walk_at "go"
      refine ⟨rfl, _, T.ki_BadRows_BadRows, ?_⟩
      walk_at "go"
      refine ⟨rfl, _, T.ki_BadRows_NoFile, ?_⟩
      walk_at "go"
      refine ⟨rfl, _, T.ki_BadRows_NotMade, ?_⟩
      walk_at "go"
      rw [dCount_e1]
      refine ⟨rfl, rfl, ?_⟩
      wp_walk using cnt_1
      rw [dIndex_e1]
      refine ⟨rfl, rfl, 1, .bl true, rfl, rfl, ix_1, ?_⟩
      refine seq_ix (xs := [.str "house", .str "rows", .str "file", .str "made"]) rfl (x := .str "rows") rfl ?_
      exact hq
    · wp_walk using rs3
      refine ⟨rfl, _, T.ki_NoFile_BadHouse, ?_⟩
      walk_at "go"
      refine ⟨rfl, _, T.ki_NoFile_BadRows, ?_⟩
      walk_at "go"
      refine ⟨rfl, _, T.ki_NoFile_NoFile, ?_⟩
      walk_at "go"
      refine ⟨rfl, _, T.ki_NoFile_NotMade, ?_⟩
      walk_at "go"
      rw [dCount_e1]
      refine ⟨rfl, rfl, ?_⟩
      wp_walk using cnt_2
      rw [dIndex_e1]
      refine ⟨rfl, rfl, 2, .bl true, rfl, rfl, ix_2, ?_⟩
      refine seq_ix (xs := [.str "house", .str "rows", .str "file", .str "made"]) rfl (x := .str "file") rfl ?_
      exact hq
theorem Tx.told (T : Tx K w mg) {XW : DXK} {X : Cx} {q : Str} {c P0 : Addr} {k : Nat} {params : Arguments} {body : Expr} {scope : Scope} {p lpos pos : Pos} {tb : DXK → DTE} (hK : X.K = K) (hmg : X.mg = mg) (hw : X.w = w) (h0 : Gl X "_law_told") (hq : X.env.qual ++ "<lambda>" = q) (TB : LamX.TabB X.base X.mg c P0) (hcode : X.env.code = .ref c) (hr : Room (k + 2) X.A) (L : LamX.LamS X.env.scope scope) (hdef : defaultsOf params X.env = ([], [])) (hbind : ∀ (q : Str) (cl : List (Str × Addr)) (pm cv ctv : Value), bindArgs (PySem.W.kla_fn "<lambda>" q params body scope cl pm cv ctv) ⟨[], []⟩ = pure [])
    (hbody : ∀ (XWb : DXK) (A : Around) (outer : List PySem.Env) (s : Shared) (H : Hp) (E : XK) (f c' : Addr), Room k (A.deeper (LamX.lamEnv X scope s.heap.objs.size f c')) → DE XWb (LamX.lamCx X A outer s H E scope f c') body (tb XWb)) :
    DE XW X (.Call (.Name "_law_told" p) [.Lambda params body scope lpos] [] pos) (dTell (TN T.c_BadHouse T.c_BadRows T.c_NoFile) q P0 tb) := by
  subst hK; subst hmg; subst hw
  obtain ⟨ts, t1, t2⟩ := told_suite (P := X.prog) (base := X.base) T
  refine DE_imp (t := dTold2 (TC T) q P0 1 3 ts tb) (de_told2 (TC := TC T) (ts := ts) (i := 1) T.t__law_told.fn T.t__law_told.bi T.t__law_told.mg sc__law_told rfl T.cm_Fault T.cm_WholeError (tcX T) (fun cdv f s H a oe C' b pn ht hz hf => t1 _ _ _ cdv s H a oe C' b pn hr ht hz hf) hq TB hcode hr L hdef hbind hbody (hg := h0)) ?_
  rintro S O Q ⟨hO, XWb, h1, h2⟩
  refine ⟨hO, XWb, h1, fun C' fs O' hx => ?_⟩
  obtain ⟨rfl, nm, ht, hq⟩ := h2 _ _ _ hx
  exact ⟨rfl, (C', nm), ⟨rfl, ht⟩, fun a ha => t2 C' nm a Q O' ht hq⟩
theorem Tx.toldD (T : Tx K w mg) {XW : DXK} {X : Cx} {q y : Str} {c P0 : Addr} {k : Nat} {params : Arguments} {body : Expr} {scope : Scope} {p lpos pos : Pos} {tb : DXK → DTE} {e0x : Expr} {v0 : V} (hK : X.K = K) (hmg : X.mg = mg) (hw : X.w = w) (h0 : Gl X "_law_told") (hq : X.env.qual ++ "<lambda>" = q) (TB : LamX.TabB X.base X.mg c P0) (hcode : X.env.code = .ref c) (hr : Room (k + 2) X.A) (L : LamD X.N X.env.scope scope) (hdd : params.defaults = [e0x]) (hkd : params.kw_defaults = []) (he : L2.PE X e0x (fun _ H Q => Q v0 H)) (hy : scope.names.lookup y = some .local) (hbind : ∀ (q : Str) (cl : List (Str × Addr)) (t : Addr) (u doc pm cv ctv : Value) (s : Shared), s.heap.get? t = some (PySem.W.kdv_tup [u]) → BindsTo s (PySem.W.kdv_fn "<lambda>" q params (.expr body) scope cl (.ref t) doc pm cv ctv) ⟨[], []⟩ [(y, u)])
    (hbody : ∀ (XWb : DXK) (A : Around) (outer : List PySem.Env) (s : Shared) (H : Hp) (E : XK) (f c' : Addr), Room k (A.deeper (LamX.lamEnv X scope s.heap.objs.size f c')) → DE XWb (LamX.lamCx X A outer s H E scope f c') body (tb XWb)) :
    DE XW X (.Call (.Name "_law_told" p) [.Lambda params body scope lpos] [] pos) (dTell (TN T.c_BadHouse T.c_BadRows T.c_NoFile) q P0 tb) := by
  subst hK; subst hmg; subst hw
  obtain ⟨ts, t1, t2⟩ := told_suite (P := X.prog) (base := X.base) T
  refine DE_imp (t := dTold2 (TC T) q P0 1 3 ts tb) (de_told2D (TC := TC T) (ts := ts) (i := 1) T.t__law_told.fn T.t__law_told.bi T.t__law_told.mg sc__law_told rfl T.cm_Fault T.cm_WholeError (tcX T) (fun cdv f s H a oe C' b pn ht hz hf => t1 _ _ _ cdv s H a oe C' b pn hr ht hz hf) hq TB hcode hr L hdd hkd he hy hbind hbody (hg := h0)) ?_
  rintro S O Q ⟨hO, XWb, h1, h2⟩
  refine ⟨hO, XWb, h1, fun C' fs O' hx => ?_⟩
  obtain ⟨rfl, nm, ht, hq⟩ := h2 _ _ _ hx
  exact ⟨rfl, (C', nm), ⟨rfl, ht⟩, fun a ha => t2 C' nm a Q O' ht hq⟩
def sp_is_name : DSp := fun ds O Q _ => ∃ (w : Str), ds = [.str w] ∧ w ∈ files10 ∧ Q (.bl true) O
def sp_is_text : DSp := fun ds O Q _ => ∃ (z : Str) (rows : List Str), ds = [.str z] ∧ (rows ≠ [] ∧ rows.length ≤ 200 ∧ (∀ r ∈ rows, Row5 r) ∧ z = jn rows) ∧ Q (.bl (decide (rows.length ≤ 60))) O
def sp_House___init__ (c_House : Addr) : DSp := fun ds O Q _ => ∃ (a : Addr), ds = [.ref a] ∧ O a = some (.ins c_House []) ∧ ∀ (p : Addr) O', HsS c_House O' a p → O' p = some (.dK []) → O p = none → Fr O O' [a] → Q .non O'
def sp_House_need (c_House : Addr) (c_NoFile : Addr) : DSp := fun ds O Q E => ∃ (a p : Addr) (m : List (Str × Str)) (f : Str), ds = [.ref a, .str f] ∧ (HsS c_House O a p ∧ O p = some (.dK (hK m))) ∧ ((lookM m f).isSome = true → Q .non O) ∧ (lookM m f = none → E c_NoFile none O)
def sp_House_lay (c_House : Addr) (c_BadHouse : Addr) : DSp := fun ds O Q E => ∃ (a p : Addr) (m : List (Str × Str)) (f z : Str) (rows : List Str), ds = [.ref a, .str f, .str z] ∧ (HsS c_House O a p ∧ O p = some (.dK (hK m))) ∧ m.length ≤ 8 ∧ f ∈ files10 ∧ (rows ≠ [] ∧ rows.length ≤ 200 ∧ (∀ r ∈ rows, Row5 r) ∧ z = jn rows) ∧ (layOk m f rows.length = true → Q .non (oset O p (.dK (hK (mput m f z))))) ∧ (layOk m f rows.length = false → E c_BadHouse none O)
def sp_House_edit (c_House : Addr) (c_BadHouse : Addr) (c_BadRows : Addr) (c_NoFile : Addr) : DSp := fun ds O Q E => ∃ (a p : Addr) (m : List (Str × Str)) (hd : Addr) (f : Str) (row many : Int) (more : List Str), ds = [.ref a, .str f, .int row, .int many, .ref hd] ∧ (HsS c_House O a p ∧ O p = some (.dK (hK m))) ∧ O hd = some (.lst (more.map DV.str)) ∧ MOk m ∧ f ∈ files10 ∧ MoreOk more ∧ (∀ z, edR m f row many more = none → lookM m f = some z → Q .non (oset O p (.dK (hK (mput m f (jn (newsS (Txt.split z nlS) row many more))))))) ∧ (∀ nm C, edR m f row many more = some nm → TN c_BadHouse c_BadRows c_NoFile C nm → E C none O)
def sp_House_drop (c_House : Addr) (c_NoFile : Addr) : DSp := fun ds O Q E => ∃ (a p : Addr) (m : List (Str × Str)) (f : Str), ds = [.ref a, .str f] ∧ (HsS c_House O a p ∧ O p = some (.dK (hK m))) ∧ ((lookM m f).isSome = true → Q .non (oset O p (.dK (hK (mdrop m f))))) ∧ (lookM m f = none → E c_NoFile none O)
def sp_House_text (c_House : Addr) (c_NoFile : Addr) : DSp := fun ds O Q E => ∃ (a p : Addr) (m : List (Str × Str)) (f : Str), ds = [.ref a, .str f] ∧ (HsS c_House O a p ∧ O p = some (.dK (hK m))) ∧ (∀ z, lookM m f = some z → Q (.str z) O) ∧ (lookM m f = none → E c_NoFile none O)
def sp_House_all_files (c_House : Addr) : DSp := fun ds O Q _ => ∃ (a p : Addr) (m : List (Str × Str)), ds = [.ref a] ∧ (HsS c_House O a p ∧ O p = some (.dK (hK m))) ∧ m.length ≤ 8 ∧ ∀ (ys : List Str) (q : Addr), ys.Perm (m.map (·.1)) → Rises ys → O q = none → Q (.ref q) (oset O q (.lst (ys.map DV.str)))
def sp__law_dice : DSp := fun ds O Q _ => ∃ (ns : List Int), ds = [.slst (ns.map DV.int)] ∧ ns.length ≤ 63 ∧ ∀ p c, O p = none → Dice c → Q (.ref p) (oset O p c)
def sp__law_next : DSp := fun ds O Q _ => ∃ (a : Addr) (m : Int) (c : Cell), ds = [.ref a, .int m] ∧ O a = some c ∧ Dice c ∧ 0 < m ∧ m < 1073741824 ∧ ∀ r c', 0 ≤ r → r < m → Dice c' → Q (.int r) (oset O a c')
def sp__law_like (n : Nat) : DSp := fun ds O Q _ => ∃ (v d1 d2 : DV) (m : Nat), ds = [d1, d2] ∧ n = m + 1 ∧ Pure m v ∧ Sees O d1 v ∧ Sees O d2 v ∧ Q (.bl true) O
def sp__law_edited (c_House : Addr) (c_tb__law_edited : Addr) (n : Nat) : DSp := fun ds O Q _ => ∃ (a p t : Addr) (m : List (Str × Str)) (f : Str) (row many : Int) (more : List Str), ds = [.ref a, .ref t, .str f, .int row, .int many, .lst (more.map DV.str)] ∧ (HsS c_House O a p ∧ O p = some (.dK (hK m))) ∧ O t = some (.dK (hK m)) ∧ t ≠ p ∧ O c_tb__law_edited = some (.tbl "_law_edited.<locals>.<lambda>") ∧ MOk m ∧ f ∈ files10 ∧ MoreOk more ∧ ∀ O' m', MOk m' → O' p = some (.dK (hK m')) → O' t = some (.dK (hK m')) → Fr O O' [p, t] → Q (.bl true) O'
def sp__law_pick : DSp := fun ds O Q _ => ∃ (a : Addr) (d : DV) (c : Cell) (xs : List DV), ds = [.ref a, d] ∧ O a = some c ∧ Dice c ∧ seqOf O d = some xs ∧ (∀ c', seqOf (oset O a c') d = some xs) ∧ 0 < xs.length ∧ xs.length < 1073741824 ∧ ∀ x ∈ xs, ∀ c', Dice c' → Q x (oset O a c')
theorem ok_is_name (T : Tx K w mg) : FnOk P w K mg base CX0 1 T.f_is_name T.d_is_name ["word"] (liftSp K (sp_is_name)) := by
  refine DFun.ok T.t_is_name.fn sc_is_name (by decide) (by rintro _ _ _ _ ⟨_, rfl, _⟩; rfl) (fun cdv A outer s H E ds O Q ED hr h => ?_)
  have nd := sc_is_name.nd
  have hu64 := hr.units
  have hu := hu_of hr
  refine ⟨_, (dss_one (ds_ret (de_and (de_chain od_le od_le de_int (de_callB cd_len T.n_len bb_len (da_cons (dv 0) da_nil)) T.e_LONG) (de_one (de_cmp (od_eq hu64) (de_lc false (own := [("sign", 1)]) rfl nd  (di_str (dv 0)) (blkOk_by (N := N_is_name) (sc := defScope s_is_name) (by decide +kernel)) (tgt_1 (i := 1) (by decide)) (fun _ _ _ _ _ => (pg_name (i := 1) nd rfl (Or.inl rfl))) (fun _ _ _ _ _ => (dts_one (dt_cmp od_notIn (dv 1) T.e_LETTERS))) (fun _ _ _ _ _ => (dv 1))) (de_lstF da_nil)))))), ?_⟩
  obtain ⟨w, rfl, hw, k⟩ := h
  obtain ⟨hl, hlt⟩ := file_name w hw
  walk_at "go"
  rw [if_pos (by omega), if_pos (by omega)]
  refine lcW_skip _ _ (fun x hx K hK => ?_) ?_
  · obtain ⟨c, hc, rfl⟩ := List.mem_map.mp hx
    have hm := hlt c hc
    walk_at "go"
    rw [decide_eq_true hm]
    exact hK
  · walk_at "ev"
    refine lst_nil (n := 0) (by simp) (by omega) ?_
    exact k
theorem ok_is_text (T : Tx K w mg) : FnOk P w K mg base CX0 1 T.f_is_text T.d_is_text ["text"] (liftSp K (sp_is_text)) := by
  refine DFun.ok T.t_is_text.fn sc_is_text (by decide) (by rintro _ _ _ _ ⟨_, _, rfl, _⟩; rfl) (fun cdv A outer s H E ds O Q ED hr h => ?_)
  have nd := sc_is_text.nd
  have hu64 := hr.units
  have hu := hu_of hr
  refine ⟨_, (dss_cons (ds_setLc false 1 (own := [("sign", 2)]) rfl nd (sw_true rfl rfl rfl (by decide +kernel)) (di_str (dv 0)) (blkOk_by (N := N_is_text) (sc := defScope s_is_text) (by decide +kernel)) (tgt_1 (i := 2) (by decide)) (fun _ _ _ _ _ => (pg_name (i := 2) nd rfl (Or.inl rfl))) (fun _ _ _ _ _ => (dts_one (dt_w (dw_and (dt_cmp (od_ne hu64) (dv 2) de_str) (dw_and1 (dt_not (dt_chain od_leS od_leS de_str (dv 2) de_str))))))) (fun _ _ _ _ _ => (dv 2)))
      (dss_one (ds_ret (de_and (de_cmp (od_eq hu64) (dv 1) (de_lstF da_nil)) (de_one (de_cmp od_le (de_callB cd_len T.n_len bb_len (da_cons (de_bm PySem.F.plainAttrs_str PySem.F.slot_str_split PySem.F.type_str_split md_split (dv 0) (da_cons de_str da_nil)) da_nil)) T.e_MOST_ROWS)))))), ?_⟩
  obtain ⟨z, rows, rfl, ⟨h1, h2, h3, rfl⟩, k⟩ := h
  have hsg := jn_signs h3
  have hln := jn_len h3
  have hsp := split_jn h1 h3
  walk_at "go"
  refine lcW_skip _ _ (fun x hx K hK => ?_) ?_
  · obtain ⟨c, hc, rfl⟩ := List.mem_map.mp hx
    rcases hsg c hc with rfl | ⟨h4, h5⟩
    · wp_walk using nl_sign
      exact hK
    · wp_walk using sign_lo h4, sign_hi h5
      refine ite_c (fun q => hK) (fun q => ?_)
      exact hK
  · walk_at "ev"
    refine lst_nil (n := 0) (by simp) (by omega) ?_
    wp_walk using hsp
    refine ⟨by decide, ?_, ?_⟩
    · have := sizeLine_eq; omega
    · wp_walk using hsp
      have e : decide (((List.map DV.str rows).length : Int) ≤ 60) = decide (rows.length ≤ 60) := by rw [List.length_map]; exact decide_eq_decide.mpr (by omega)
      rw [e]
      exact k
theorem ok_House___init__ (T : Tx K w mg) : FnOk P w K mg base CX0 1 T.f_House___init__ T.d_House___init__ ["self"] (liftSp K (sp_House___init__ T.c_House)) := by
  refine DFun.ok T.t_House___init__.fn sc_House___init__ (by decide) (by rintro _ _ _ _ ⟨_, rfl, _⟩; rfl) (fun cdv A outer s H E ds O Q ED hr h => ?_)
  have nd := sc_House___init__.nd
  have hu64 := hr.units
  have hu := hu_of hr
  refine ⟨_, (dss_cons (ds_fld T.cl_House T.na_House_texts (dv 0) de_dnewK)
      (dss_cons (ds_fld T.cl_House T.na_House_made_of (dv 0) de_dnewK)
      (dss_cons (ds_fld T.cl_House T.na_House_shown (dv 0) de_dnewK)
      (dss_one (ds_fld T.cl_House T.na_House_laid (dv 0) de_non))))), ?_⟩
  obtain ⟨a, rfl, hO, k⟩ := h
  wp_walk using hO
  intro p hp
  have n1 : a ≠ p := ne_of hO hp
  have g1 : oset O p (.dK []) a = some (.ins T.c_House []) := (oset_ne n1).trans hO
  wp_walk using g1, oset_same, pu0
  intro b hb
  have n2 : a ≠ b := ne_of oset_same hb
  have n3 : p ≠ b := fun z => by rw [← z, oset_ne (Ne.symm n1), oset_same] at hb; cases hb
  have hb0 : O b = none := by rw [oset_ne (Ne.symm n2), oset_ne (Ne.symm n3)] at hb; exact hb
  wp_walk using (oset_ne n2), oset_same, pu1
  intro c hc
  have n4 : a ≠ c := ne_of oset_same hc
  have n5 : b ≠ c := fun z => by rw [← z, oset_ne (Ne.symm n2), oset_same] at hc; cases hc
  have n6 : p ≠ c := fun z => by rw [← z, oset_ne (Ne.symm n1), oset_ne n3, oset_ne (Ne.symm n1), oset_same] at hc; cases hc
  have hc0 : O c = none := by rw [oset_ne (Ne.symm n4), oset_ne (Ne.symm n5), oset_ne (Ne.symm n4), oset_ne (Ne.symm n6)] at hc; exact hc
  wp_walk using (oset_ne n4), oset_same, pu2, pu3
  refine k p _ ⟨b, c, oset_same⟩ ?_ hp ?_
  · rw [oset_ne (Ne.symm n1), oset_ne n6, oset_ne (Ne.symm n1), oset_ne n3, oset_ne (Ne.symm n1), oset_same]
  · exact Fr.set (Fr.set (Fr.set (Fr.set (Fr.set (Fr.set Fr.refl (.inr hp)) (.inl (by simp))) (.inr hb0)) (.inl (by simp))) (.inr hc0)) (.inl (by simp))
theorem ok_House_need (T : Tx K w mg) : FnOk P w K mg base (L2.CX P w) 1 T.f_House_need T.d_House_need ["self", "file"] (liftSp K (sp_House_need T.c_House T.c_NoFile)) := by
  refine DFun.okX T.t_House_need.fn sc_House_need (by decide) (by rintro _ _ _ _ ⟨_, _, _, _, rfl, _⟩; rfl) (fun cdv A outer s H E ds O Q ED hr h => ?_)
  have nd := sc_House_need.nd
  have hu64 := hr.units
  have hu := hu_of hr
  refine ⟨_, (dss_one (ds_if (dt_cmp (od_dnin hu) (dv 1) (de_fld T.cl_House T.na_House_texts (dv 0))) (dss_one (ds_raiseP PySem.F.excBase_ValueError T.xp_NoFile T.cm_NoFile T.kp_NoFile T.sb_NoFile T.tp_NoFile)) dss_nil)), ?_⟩
  obtain ⟨a, p, m, f, rfl, ⟨⟨b, c, hO⟩, hp⟩, k1, k2⟩ := h
  have hg := dget_hK m f
  cases e : lookM m f with
  | none =>
    rw [e] at hg
    have hg : dget (hK m) (Sum.inr f) = none := hg
    wp_walk using hO, hp, hg
    exact k2 e
  | some z =>
    rw [e] at hg
    have hg : dget (hK m) (Sum.inr f) = some (.str z) := hg
    wp_walk using hO, hp, hg
    exact k1 (by rw [e]; rfl)
theorem ok_House_lay (T : Tx K w mg) : FnOk P w K mg base (L2.CX P w) 2 T.f_House_lay T.d_House_lay ["self", "file", "text"] (liftSp K (sp_House_lay T.c_House T.c_BadHouse)) := by
  refine DFun.okX T.t_House_lay.fn sc_House_lay (by decide) (by rintro _ _ _ _ ⟨_, _, _, _, _, _, rfl, _⟩; rfl) (fun cdv A outer s H E ds O Q ED hr h => ?_)
  have nd := sc_House_lay.nd
  have hu64 := hr.units
  have hu := hu_of hr
  have G_is_text := ok_is_text (P := P) (base := base) T
  have hr_is_text : Room 1 _ := hr.mono (by omega)
  have G_is_name := ok_is_name (P := P) (base := base) T
  have hr_is_name : Room 1 _ := hr.mono (by omega)
  refine ⟨_, (dss_cons (ds_if (dt_w (dw_or (dt_not (dt_val (de_call G_is_name hr_is_name T.t_is_name.mg T.t_is_name.fn.kp T.t_is_name.bi (da_cons (dv 1) da_nil)))) (dw_or (dt_not (dt_val (de_call G_is_text hr_is_text T.t_is_text.mg T.t_is_text.fn.kp T.t_is_text.bi (da_cons (dv 2) da_nil)))) (dw_or1 (dt_w (dw_and (dt_cmp (od_dnin hu) (dv 1) (de_fld T.cl_House T.na_House_texts (dv 0))) (dw_and1 (dt_cmp od_ge (de_callB cd_lenD T.n_len bb_len (da_cons (de_fld T.cl_House T.na_House_texts (dv 0)) da_nil)) T.e_MOST_FILES)))))))) (dss_one (ds_raiseP PySem.F.excBase_ValueError T.xp_BadHouse T.cm_BadHouse T.kp_BadHouse T.sb_BadHouse T.tp_BadHouse)) dss_nil)
      (dss_one (ds_asg (dv 2) (dg_sub (de_fld T.cl_House T.na_House_texts (dv 0)) (dv 1) (psd_dict hu))))), ?_⟩
  obtain ⟨a, p, m, f, z, rows, rfl, ⟨⟨b, c, hO⟩, hp⟩, hl8, hf, ht, k1, k2⟩ := h
  have hg := dget_hK m f
  have hsz : (hK m).length < 16000000 := by rw [hK_len]; omega
  unfold layOk at k1 k2
  wp_walk using hO, hp
  refine ⟨f, rfl, hf, ?_⟩
  wp_walk using hO, hp
  refine ⟨z, rows, rfl, ht, ?_⟩
  by_cases q : rows.length ≤ 60
  · rw [decide_eq_true q] at k1 k2 ⊢
    cases e : lookM m f with
    | none =>
      rw [e] at hg k1 k2
      have hg : dget (hK m) (Sum.inr f) = none := hg
      wp_walk using hO, hp, hg, hK_len
      by_cases q2 : m.length < 8
      · rw [decide_eq_true q2] at k1
        rw [if_neg (by omega), dput_hK]
        exact ⟨by omega, k1 rfl⟩
      · rw [decide_eq_false q2] at k2
        rw [if_pos (by omega)]
        exact k2 rfl
    | some y =>
      rw [e] at hg k1 k2
      have hg : dget (hK m) (Sum.inr f) = some (.str y) := hg
      wp_walk using hO, hp, hg, hK_len, hsz, dput_hK
      exact k1 rfl
  · rw [decide_eq_false q] at k1 k2 ⊢
    walk_at "go"
    exact k2 rfl
theorem ok_House_edit (T : Tx K w mg) : FnOk P w K mg base (L2.CX P w) 3 T.f_House_edit T.d_House_edit ["self", "file", "row", "many", "rows"] (liftSp K (sp_House_edit T.c_House T.c_BadHouse T.c_BadRows T.c_NoFile)) := by
  refine DFun.okX T.t_House_edit.fn sc_House_edit (by decide) (by rintro _ _ _ _ ⟨_, _, _, _, _, _, _, _, rfl, _⟩; rfl) (fun cdv A outer s H E ds O Q ED hr h => ?_)
  have nd := sc_House_edit.nd
  have hu64 := hr.units
  have hu := hu_of hr
  have G_House_need := ok_House_need (P := P) (base := base) T
  have hr_House_need : Room 1 _ := hr.mono (by omega)
  have G_House_lay := ok_House_lay (P := P) (base := base) T
  have hr_House_lay : Room 2 _ := hr.mono (by omega)
  refine ⟨_, (dss_cons (ds_expr (de_methX T.cl_House T.t_House_need.mt G_House_need hr_House_need T.t_House_need.bi (dv 0) (da_cons (dv 1) da_nil)))
      (dss_cons (ds_set 5 (de_bm PySem.F.plainAttrs_str PySem.F.slot_str_split PySem.F.type_str_split md_split (de_dix hu (de_fld T.cl_House T.na_House_texts (dv 0)) (dv 1)) (da_cons de_str da_nil)) nd)
      (dss_cons (ds_if (dt_w (dw_or (dt_not (dt_chain od_le od_le de_int (dv 2) (de_op od_add (de_callB cd_len T.n_len bb_len (da_cons (dv 5) da_nil)) de_int))) (dw_or1 (dt_not (dt_chain od_le od_le de_int (dv 3) (de_op od_sub (de_op od_add (de_callB cd_len T.n_len bb_len (da_cons (dv 5) da_nil)) de_int) (dv 2))))))) (dss_one (ds_raiseP PySem.F.excBase_ValueError T.xp_BadRows T.cm_BadRows T.kp_BadRows T.sb_BadRows T.tp_BadRows)) dss_nil)
      (dss_cons (ds_if (dt_cmp (od_ne hu64) (de_lcO false (own := [("one", 6)]) rfl nd (dv 4) (blkOk_by (N := N_House_edit) (sc := defScope s_House_edit) (by decide +kernel)) (tgt_1 (i := 6) (by decide)) (fun _ _ _ _ _ => (pg_name (i := 6) nd rfl (Or.inl rfl))) (fun _ _ _ _ _ => (dts_one (dt_cmp od_in de_str (dv 6)))) (fun _ _ _ _ _ => (dv 6))) (de_lstF da_nil)) (dss_one (ds_raiseP PySem.F.excBase_ValueError T.xp_BadRows T.cm_BadRows T.kp_BadRows T.sb_BadRows T.tp_BadRows)) dss_nil)
      (dss_one (ds_expr (de_methX T.cl_House T.t_House_lay.mt G_House_lay hr_House_lay T.t_House_lay.bi (dv 0) (da_cons (dv 1) (da_cons (de_bm PySem.F.plainAttrs_str PySem.F.slot_str_join PySem.F.type_str_join md_join de_str (da_cons (de_op od_add (de_op od_add (de_slice (dv 5) do_none (do_some (de_op od_sub (dv 2) de_int))) (de_callTy cd_listF T.n_list bb_list (da_cons (dv 4) da_nil))) (de_slice (dv 5) (do_some (de_op od_add (de_op od_sub (dv 2) de_int) (dv 3))) do_none)) da_nil)) da_nil))))))))), ?_⟩
  obtain ⟨a, p, m, hd, f, row, many, more, rfl, ⟨⟨b, c, hO⟩, hp⟩, hh, hm, hf, hmo, k1, k2⟩ := h
  have hg := dget_hK m f
  wp_walk using hO
  refine ⟨a, p, m, f, rfl, ⟨⟨b, c, hO⟩, hp⟩, fun e => ?_, fun e => k2 "file" _ (by unfold edR; rw [e]) (.inr (.inr ⟨rfl, rfl⟩))⟩
  obtain ⟨z, e⟩ := Option.isSome_iff_exists.mp e
  rw [e] at hg
  have hg : dget (hK m) (Sum.inr f) = some (.str z) := hg
  obtain ⟨s1, s2, s3, s4⟩ := (hm.look e).split
  have hz := (hm.look e).len
  rw [len_tl] at hz
  wp_walk using hO, hp, hg
  refine ⟨by decide, by have := sizeLine_eq; omega, ?_⟩
  obtain ⟨olds, hol⟩ : ∃ o, o = Txt.split z (Str.ofString "
") := ⟨_, rfl⟩
  have ed := edR_some (row := row) (many := many) (more := more) e
  rw [← hol] at s1 s2 s3 s4 ed ⊢
  have kz := fun h0 => k1 z h0 e
  rw [ed] at k2 kz
  rw [← hol] at kz
  clear ed k1
  have bad : ¬ inR olds.length row many → ED T.c_BadRows none O := fun hn => k2 "rows" _ (by unfold edQ; rw [if_neg hn]) (.inr (.inl ⟨rfl, rfl⟩))
  refine dSeq_mid (fun S' O' => O' = O ∧ inR olds.length row many ∧ S' = [some (.ref a), some (.str f), some (.int row), some (.int many), some (.ref hd), some (.lst (olds.map DV.str)), none]) (fun R hR => ?_) ?_
  · wp_walk using hO
    simp only [List.length_map]
    exact ite_c (fun r1 => ite_c (fun r2 => bad fun h => r2 h.1.2) (fun r2 => ite_c (fun r3 => ite_c (fun r4 => bad fun h => r4 h.2.2) (fun r4 => hR _ _ ⟨rfl, ⟨⟨r1, Classical.not_not.mp r2⟩, r3, Classical.not_not.mp r4⟩, rfl⟩)) (fun r3 => bad fun h => r3 h.2.1))) (fun r1 => bad fun h => r1 h.1.1)
  · rintro S' O' ⟨rfl, hin, rfl⟩
    have ml := hmo.len
    wp_walk using hO, hh
    refine lcWO_filtS (fun r => decide (10 ∈ tl r)) hh more [] (fun r hr K hK => ?_) (fun r hr K hK => ?_) (by simp; omega) ?_
    · walk_at "go"
      exact hK
    · walk_at "go"
      exact hK
    · walk_at "ev"
      show dEqP true (.lst ((dirtyS more).map DV.str)) (.lst []) _ _
      refine lst_nilS (fun x hx => hmo.cps x (List.mem_filter.mp hx).1) ?_
      by_cases q : ∀ r ∈ more, 10 ∉ tl r
      · rw [dirty_nil q]
        have hrows := hmo.rows q
        have nl := newsS_len olds row many more
        have nok := newsS_ok (row := row) (many := many) s3 hrows
        wp_walk using hO, hh
        have l1 := cutG_len (xs := olds) (lo := none) (hi := some (row - 1))
        have l2 := cutG_len (xs := olds) (lo := some (row - 1 + many)) (hi := none)
        have e3 := news_D olds more row many
        have e4 : strsOf (DL.cutD (olds.map DV.str) none (some (row - 1)) ++ more.map DV.str ++ DL.cutD (olds.map DV.str) (some (row - 1 + many)) none) = some (newsS olds row many more) := by rw [e3]; exact strs_some _
        have hs := jn_sum (rows := newsS olds row many more) fun r hr => (nok r hr).len
        have hsl := sizeLine_eq
        have hll : (nrm (newsS olds row many more)).length ≤ 200 := by
          have := nrm_le (rows := newsS olds row many more)
          omega
        have z1 : (DL.cutD (olds.map DV.str) none (some (row - 1))).length + (more.map DV.str).length ≤ sizeLine := by
          rw [cutD_map, List.length_map, List.length_map]; omega
        have z2 : (DL.cutD (olds.map DV.str) none (some (row - 1)) ++ more.map DV.str).length + (DL.cutD (olds.map DV.str) (some (row - 1 + many)) none).length ≤ sizeLine := by
          rw [cutD_map, cutD_map, List.length_append, List.length_map, List.length_map, List.length_map]; omega
        have z3 : ((newsS olds row many more).map fun x => (tl x).length).sum + (newsS olds row many more).length * (tl (Str.ofString "
")).length ≤ 16777216 := by
          have z4 : (tl (Str.ofString "
")).length = 1 := rfl
          rw [z4]; omega
        refine ⟨z1, z2, onSome_of e4 ⟨z3, a, p, m, f, _, nrm (newsS olds row many more), rfl, ⟨⟨b, c, hO⟩, hp⟩, hm.l8, hf, ⟨nrm_ne _, hll, nrm_ok nok, (jn_nrm _).symm⟩, fun h => ?_, fun h => ?_⟩⟩
        · unfold layOk at h
          rw [Bool.and_eq_true, decide_eq_true_eq, nrm_len] at h
          exact kz (by unfold edQ; rw [if_pos hin, if_pos q, if_pos h.1])
        · unfold layOk at h
          rw [e] at h
          have h : ¬ (nrm (newsS olds row many more)).length ≤ 60 := by simpa using h
          rw [nrm_len] at h
          exact k2 "house" _ (by unfold edQ; rw [if_pos hin, if_pos q, if_neg h]) (.inl ⟨rfl, rfl⟩)
      · have hdn : dirtyS more ≠ [] := fun h => q ((dirty_eq more).mp h)
        rw [decide_eq_false hdn]
        walk_at "go"
        exact k2 "rows" _ (by unfold edQ; rw [if_pos hin, if_neg q]) (.inr (.inl ⟨rfl, rfl⟩))
theorem ok_House_drop (T : Tx K w mg) : FnOk P w K mg base (L2.CX P w) 2 T.f_House_drop T.d_House_drop ["self", "file"] (liftSp K (sp_House_drop T.c_House T.c_NoFile)) := by
  refine DFun.okX T.t_House_drop.fn sc_House_drop (by decide) (by rintro _ _ _ _ ⟨_, _, _, _, rfl, _⟩; rfl) (fun cdv A outer s H E ds O Q ED hr h => ?_)
  have nd := sc_House_drop.nd
  have hu64 := hr.units
  have hu := hu_of hr
  have G_House_need := ok_House_need (P := P) (base := base) T
  have hr_House_need : Room 1 _ := hr.mono (by omega)
  refine ⟨_, (dss_cons (ds_expr (de_methX T.cl_House T.t_House_need.mt G_House_need hr_House_need T.t_House_need.bi (dv 0) (da_cons (dv 1) da_nil)))
      (dss_one (ds_expr (de_bm PySem.F.plainAttrs_dict PySem.F.slot_dict_pop PySem.F.type_dict_pop md_pop (de_fld T.cl_House T.na_House_texts (dv 0)) (da_cons (dv 1) da_nil))))), ?_⟩
  obtain ⟨a, p, m, f, rfl, ⟨⟨b, c, hO⟩, hp⟩, k1, k2⟩ := h
  have hg := dget_hK m f
  wp_walk using hO
  refine ⟨a, p, m, f, rfl, ⟨⟨b, c, hO⟩, hp⟩, fun e => ?_, fun e => k2 e⟩
  obtain ⟨z, e2⟩ := Option.isSome_iff_exists.mp e
  rw [e2] at hg
  have hg : dget (hK m) (Sum.inr f) = some (.str z) := hg
  wp_walk using hO, hp, hg
  show Q _ _
  rw [ddrop_hK]
  exact k1 e
theorem ok_House_text (T : Tx K w mg) : FnOk P w K mg base (L2.CX P w) 2 T.f_House_text T.d_House_text ["self", "file"] (liftSp K (sp_House_text T.c_House T.c_NoFile)) := by
  refine DFun.okX T.t_House_text.fn sc_House_text (by decide) (by rintro _ _ _ _ ⟨_, _, _, _, rfl, _⟩; rfl) (fun cdv A outer s H E ds O Q ED hr h => ?_)
  have nd := sc_House_text.nd
  have hu64 := hr.units
  have hu := hu_of hr
  have G_House_need := ok_House_need (P := P) (base := base) T
  have hr_House_need : Room 1 _ := hr.mono (by omega)
  refine ⟨_, (dss_cons (ds_expr (de_methX T.cl_House T.t_House_need.mt G_House_need hr_House_need T.t_House_need.bi (dv 0) (da_cons (dv 1) da_nil)))
      (dss_one (ds_ret (de_dix hu (de_fld T.cl_House T.na_House_texts (dv 0)) (dv 1))))), ?_⟩
  obtain ⟨a, p, m, f, rfl, ⟨⟨b, c, hO⟩, hp⟩, k1, k2⟩ := h
  have hg := dget_hK m f
  wp_walk using hO
  refine ⟨a, p, m, f, rfl, ⟨⟨b, c, hO⟩, hp⟩, fun e => ?_, fun e => k2 e⟩
  obtain ⟨z, e2⟩ := Option.isSome_iff_exists.mp e
  rw [e2] at hg
  have hg : dget (hK m) (Sum.inr f) = some (.str z) := hg
  wp_walk using hO, hp, hg
  exact k1 z e2
theorem ok_House_all_files (T : Tx K w mg) : FnOk P w K mg base CX0 1 T.f_House_all_files T.d_House_all_files ["self"] (liftSp K (sp_House_all_files T.c_House)) := by
  refine DFun.ok T.t_House_all_files.fn sc_House_all_files (by decide) (by rintro _ _ _ _ ⟨_, _, _, rfl, _⟩; rfl) (fun cdv A outer s H E ds O Q ED hr h => ?_)
  have nd := sc_House_all_files.nd
  have hu64 := hr.units
  have hu := hu_of hr
  refine ⟨_, (dss_one (ds_ret (de_callB (cd_sortO rfl) T.n_sorted bb_sorted (da_cons (de_fld T.cl_House T.na_House_texts (dv 0)) da_nil)))), ?_⟩
  obtain ⟨a, p, m, rfl, ⟨⟨b, c, hO⟩, hp⟩, hl, k⟩ := h
  wp_walk using hO, hp
  exact ⟨m.map (·.1), hK_keys m, by rw [List.length_map]; omega, fun ys q h1 h2 h3 => k ys q h1 h2 h3⟩
theorem ok__law_dice (T : Tx K w mg) : FnOk P w K mg base CX0 1 T.f__law_dice T.d__law_dice ["_law_script"] (liftSp K (sp__law_dice)) := by
  refine DFun.ok T.t__law_dice.fn sc__law_dice (by decide) (by rintro _ _ _ _ ⟨_, rfl, _⟩; rfl) (fun cdv A outer s H E ds O Q ED hr h => ?_)
  have nd := sc__law_dice.nd
  have hu64 := hr.units
  have hu := hu_of hr
  refine ⟨_, (dss_cons (ds_set 1 de_int nd)
      (dss_cons (ds_for PassesOwn.never rfl (di_list (dv 0)) (dg_name 2 nd) (dss_one (ds_set 1 (de_op od_mod (de_op od_add (de_op od_add (de_op od_mul (dv 1) de_int) (de_op od_mul (de_op od_mod (dv 2) de_int) de_int)) de_int) de_int) nd)))
      (dss_one (ds_ret (de_lstO (da_cons (dv 0) (da_cons de_int (da_cons (de_op od_mul (dv 1) (de_callTy cd_int T.n_int bb_int (da_cons (de_cmp od_gt (de_callB cd_len T.n_len bb_len (da_cons (dv 0) da_nil)) de_int) da_nil))) (da_cons de_int da_nil))))))))), ?_⟩
  obtain ⟨ns, rfl, hn, k⟩ := h
  walk_at "ev"
  refine forW_by (α := Int × Option DV) (fun x => [some (.slst (ns.map DV.int)), some (.int x.1), x.2]) (fun _ => O) _ (fun _ x => 0 ≤ x.1 ∧ x.1 < 2147483647) ?_ ?_ (0, none) rfl rfl ⟨by decide, by decide⟩
  · rintro i ⟨m, cl⟩ d nx e ⟨h1, h2⟩ hn2
    dsimp only at h1 h2
    rw [List.getElem?_map] at e
    cases e0 : ns[i]? with
    | none => rw [e0] at e; cases e
    | some v =>
      rw [e0] at e; cases e
      walk_at "go"
      exact hn2 (_, _) ⟨Int.emod_nonneg _ (by decide), Int.emod_lt_of_pos _ (by decide)⟩
  · rintro ⟨m, cl⟩ ⟨h1, h2⟩
    dsimp only at h1 h2
    walk_at "go"
    refine fun p hp => k p _ hp ?_
    · refine ⟨ns, 0, _, 0, rfl, by decide, ?_, ?_, by decide, hn⟩
      · split <;> omega
      · split <;> omega
theorem ok__law_next (T : Tx K w mg) : FnOk P w K mg base CX0 1 T.f__law_next T.d__law_next ["_law_dice_here", "_law_many"] (liftSp K (sp__law_next)) := by
  refine DFun.ok T.t__law_next.fn sc__law_next (by decide) (by rintro _ _ _ _ ⟨_, _, _, rfl, _⟩; rfl) (fun cdv A outer s H E ds O Q ED hr h => ?_)
  have nd := sc__law_next.nd
  have hu64 := hr.units
  have hu := hu_of hr
  refine ⟨_, (dss_cons (ds_if (dt_cmp od_gt (de_ix (dv 0) de_int) de_int) (dss_cons (ds_set 2 (de_op od_mod (de_ix (dv 0) de_int) (dv 1)) nd)
      (dss_cons (ds_asg (de_op od_fdiv (de_ix (dv 0) de_int) (dv 1)) (dg_sub (dv 0) de_int psd_list))
      (dss_one (ds_ret (dv 2))))) dss_nil)
      (dss_cons (ds_asg (de_op od_add (de_ix (dv 0) de_int) de_int) (dg_sub (dv 0) de_int psd_list))
      (dss_cons (ds_if (dt_cmp od_le (de_ix (dv 0) de_int) (de_callB cd_len T.n_len bb_len (da_cons (de_ix (dv 0) de_int) da_nil))) (dss_cons (ds_set 3 (de_ix (de_ix (dv 0) de_int) (de_op od_sub (de_ix (dv 0) de_int) de_int)) nd)
      (dss_cons (ds_asg (de_if (dt_cmp od_ge (dv 3) (de_op od_pow de_int de_int)) (de_op od_fdiv (dv 3) (dv 1)) de_int) (dg_sub (dv 0) de_int psd_list))
      (dss_one (ds_ret (de_op od_mod (dv 3) (dv 1)))))) dss_nil)
      (dss_cons (ds_asg (de_op od_mod (de_op od_mul (de_ix (dv 0) de_int) de_int) de_int) (dg_sub (dv 0) de_int psd_list))
      (dss_one (ds_ret (de_op od_mod (de_op od_fdiv (de_ix (dv 0) de_int) de_int) (dv 1)))))))), ?_⟩
  obtain ⟨a, m, c, rfl, hO, ⟨ns, p, mx, lf, rfl, h1, h2, h3, h4, h5⟩, hm, hm2, k⟩ := h
  wp_walk using hO
  refine ite_c (fun q => ?_) (fun q => ?_)
  · wp_walk using hO
    exact k _ _ (Int.emod_nonneg _ (by omega)) (Int.emod_lt_of_pos _ hm) ⟨ns, _, _, _, rfl, h1, h2, h3, Int.ediv_nonneg h4 (by omega), h5⟩
  · wp_walk using hO
    refine ite_c (fun q2 => ?_) (fun q2 => ?_)
    · rw [List.length_map] at q2
      have e : atI (List.map DV.int ns) (p + 1 - 1) = some (.int (ns[p.toNat]'(by omega))) := by
        rw [show p + 1 - 1 = p by omega, atI_pos h1, List.getElem?_map, List.getElem?_eq_getElem (by omega)]; rfl
      generalize ns[p.toNat]'(by omega) = v at e
      wp_walk using e
      refine ite_c (fun q3 => ?_) (fun q3 => ?_)
      · have q4 : (0 : Int) ≤ v := by
          have : (0 : Int) ≤ 10 ^ Int.toNat 18 := by decide
          omega
        walk_at "go"
        exact k _ _ (Int.emod_nonneg _ (by omega)) (Int.emod_lt_of_pos _ hm) ⟨ns, _, _, _, rfl, by omega, h2, h3, Int.ediv_nonneg q4 (by omega), h5⟩
      · walk_at "go"
        exact k _ _ (Int.emod_nonneg _ (by omega)) (Int.emod_lt_of_pos _ hm) ⟨ns, _, _, _, rfl, by omega, h2, h3, by decide, h5⟩
    · walk_at "go"
      exact k _ _ (Int.emod_nonneg _ (by omega)) (Int.emod_lt_of_pos _ hm) ⟨ns, _, _, _, rfl, by omega, Int.emod_nonneg _ (by decide), Int.emod_lt_of_pos _ (by decide), h4, h5⟩
theorem ok__law_like (T : Tx K w mg) : ∀ n : Nat, FnOk P w K mg base CX0 (n + 1) T.f__law_like T.d__law_like ["_law_found", "_law_due"] (liftSp K (sp__law_like n))
| 0 => fn_false (fun ds O Q E h => by obtain ⟨v, d1, d2, m, rfl, hm, h⟩ := h; cases hm)
| n + 1 => by
  have G__law_like := ok__law_like T n
  refine DFun.ok T.t__law_like.fn sc__law_like (by decide) (by rintro _ _ _ _ ⟨_, _, _, _, rfl, _⟩; rfl) (fun cdv A outer s H E ds O Q ED hr h => ?_)
  have hr__law_like : Room (n + 1) _ := hr
  have nd := sc__law_like.nd
  have hu64 := hr.units
  have hu := hu_of hr
  refine ⟨_, (dss_cons (ds_if (dt_w (dw_or (dt_val (de_callB cd_isi T.n_isinstance bb_isinstance (da_cons (dv 1) (da_cons (de_blt T.n_tuple bb_tuple) da_nil)))) (dw_or1 (dt_val (de_callB cd_isi T.n_isinstance bb_isinstance (da_cons (dv 1) (da_cons (de_blt T.n_list bb_list) da_nil))))))) (dss_cons (ds_if (dt_cmp (od_ne hu64) (de_callB cd_isi T.n_isinstance bb_isinstance (da_cons (dv 0) (da_cons (de_blt T.n_tuple bb_tuple) da_nil))) (de_callB cd_isi T.n_isinstance bb_isinstance (da_cons (dv 1) (da_cons (de_blt T.n_tuple bb_tuple) da_nil)))) (dss_one (ds_ret de_bl)) dss_nil)
      (dss_cons (ds_if (dt_w (dw_or (dt_cmp (od_ne hu64) (de_callB cd_isi T.n_isinstance bb_isinstance (da_cons (dv 0) (da_cons (de_blt T.n_list bb_list) da_nil))) (de_callB cd_isi T.n_isinstance bb_isinstance (da_cons (dv 1) (da_cons (de_blt T.n_list bb_list) da_nil)))) (dw_or1 (dt_cmp (od_ne hu64) (de_callB cd_len T.n_len bb_len (da_cons (dv 0) da_nil)) (de_callB cd_len T.n_len bb_len (da_cons (dv 1) da_nil)))))) (dss_one (ds_ret de_bl)) dss_nil)
      (dss_one (ds_ret (de_cmp (od_eq hu64) (de_lc false (own := [("_law_k", 2)]) rfl nd  (di_range1 T.n_range (da_cons (de_callB cd_len T.n_len bb_len (da_cons (dv 1) da_nil)) da_nil)) (blkOk_by (N := N__law_like) (sc := defScope s__law_like) (by decide +kernel)) (tgt_1 (i := 2) (by decide)) (fun _ _ _ _ _ => (pg_name (i := 2) nd rfl (Or.inl rfl))) (fun _ _ _ _ _ => (dts_one (dt_not (dt_val (de_call G__law_like hr__law_like T.t__law_like.mg T.t__law_like.fn.kp T.t__law_like.bi (da_cons (de_ix (dv 0) (dv 2)) (da_cons (de_ix (dv 1) (dv 2)) da_nil))))))) (fun _ _ _ _ _ => (dv 2))) (de_lstF da_nil)))))) dss_nil)
      (dss_cons (ds_if (dt_cmp (od_ne hu64) (de_callB cd_isi T.n_isinstance bb_isinstance (da_cons (dv 0) (da_cons (de_blt T.n_bool bb_bool) da_nil))) (de_callB cd_isi T.n_isinstance bb_isinstance (da_cons (dv 1) (da_cons (de_blt T.n_bool bb_bool) da_nil)))) (dss_one (ds_ret de_bl)) dss_nil)
      (dss_cons (ds_if (dt_w (dw_or (dt_cmp (od_ne hu64) (de_callB cd_isi T.n_isinstance bb_isinstance (da_cons (dv 0) (da_cons (de_blt T.n_int bb_int) da_nil))) (de_callB cd_isi T.n_isinstance bb_isinstance (da_cons (dv 1) (da_cons (de_blt T.n_int bb_int) da_nil)))) (dw_or1 (dt_cmp (od_ne hu64) (de_callB cd_isi T.n_isinstance bb_isinstance (da_cons (dv 0) (da_cons (de_blt T.n_str bb_str) da_nil))) (de_callB cd_isi T.n_isinstance bb_isinstance (da_cons (dv 1) (da_cons (de_blt T.n_str bb_str) da_nil))))))) (dss_one (ds_ret de_bl)) dss_nil)
      (dss_one (ds_ret (de_cmp (od_eq hu64) (dv 0) (dv 1))))))), ?_⟩
  obtain ⟨v, d1, d2, m, rfl, hm, hv, h1, h2, k⟩ := h
  cases hm
  walk_at "ev"
  cases hv with
  | non =>
    have e1 := h1.flat (by rintro _ e; cases e)
    have e2 := h2.flat (by rintro _ e; cases e)
    subst e1; subst e2
    wp_walk using DL.dEqP, DL.toPy
    exact ⟨rfl, rfl, k⟩
  | bl b =>
    have e1 := h1.flat (by rintro _ e; cases e)
    have e2 := h2.flat (by rintro _ e; cases e)
    subst e1; subst e2
    walk_at "go"
    exact k
  | int b =>
    have e1 := h1.flat (by rintro _ e; cases e)
    have e2 := h2.flat (by rintro _ e; cases e)
    subst e1; subst e2
    walk_at "go"
    exact k
  | str b =>
    have e1 := h1.flat (by rintro _ e; cases e)
    have e2 := h2.flat (by rintro _ e; cases e)
    subst e1; subst e2
    walk_at "go"
    exact k
  | tup hx hl =>
    obtain ⟨q1, t1⟩ := Sees.seq.2 h1
    obtain ⟨q2, t2⟩ := Sees.seq.2 h2
    wp_walk using t1, t2
    refine seq_len q1 (seq_len q2 ?_)
    wp_walk using not_true, decide_true, Bool.not_true
    refine seq_len q2 ?_
    wp_walk using not_true
    refine like_all (fun j hj K hK => ?_) (by walk_at "ev"; exact ⟨rfl, rfl, k⟩)
    rw [Int.toNat_natCast] at hj
    walk_at "ev"
    have hg := (List.getElem?_eq_getElem hj)
    refine seq_ix q1 (by rw [atI_nat_]; exact hg) (seq_ix q2 (by rw [atI_nat_]; exact hg) ?_)
    refine ⟨_, _, _, _, rfl, rfl, hx _ (List.getElem_mem hj), .inl rfl, .inl rfl, ?_⟩
    walk_at "ev"
    exact hK
  | lst hx hl =>
    obtain ⟨q1, t1⟩ := Sees.seq.1 h1
    obtain ⟨q2, t2⟩ := Sees.seq.1 h2
    wp_walk using t1, t2
    refine seq_len q1 (seq_len q2 ?_)
    wp_walk using not_true, decide_true, Bool.not_true
    refine seq_len q2 ?_
    wp_walk using not_true
    refine like_all (fun j hj K hK => ?_) (by walk_at "ev"; exact ⟨rfl, rfl, k⟩)
    rw [Int.toNat_natCast] at hj
    walk_at "ev"
    have hg := (List.getElem?_eq_getElem hj)
    refine seq_ix q1 (by rw [atI_nat_]; exact hg) (seq_ix q2 (by rw [atI_nat_]; exact hg) ?_)
    refine ⟨_, _, _, _, rfl, rfl, hx _ (List.getElem_mem hj), .inl rfl, .inl rfl, ?_⟩
    walk_at "ev"
    exact hK
theorem ok__law_edited (T : Tx K w mg) (n : Nat) (TB : LamX.TabB base mg T.co__law_edited T.c_tb__law_edited) : FnOk P w K mg base CX0 (30) T.f__law_edited T.d__law_edited ["_law_house", "_law_texts", "_law_file", "_law_row", "_law_many", "_law_more"] (liftSp K (sp__law_edited T.c_House T.c_tb__law_edited 0)) := by
  refine DFun.okC T.hc__law_edited T.t__law_edited.fn sc__law_edited (by decide) (by rintro _ _ _ _ ⟨_, _, _, _, _, _, _, _, rfl, _⟩; rfl) (fun A outer s H E ds O Q ED hr h => ?_)
  have nd := sc__law_edited.nd
  have hu64 := hr.units
  have hu := hu_of hr
  have G_House_edit := ok_House_edit (P := P) (base := base) T
  have hr_House_edit : Room 3 _ := hr.mono (by omega)
  have G__law_like := ok__law_like (P := P) (base := base) T 25
  have hr__law_like : Room 26 _ := hr.mono (by omega)
  refine ⟨_, (dss_cons (ds_par 6 7 nd (da_cons (de_bm PySem.F.plainAttrs_str PySem.F.slot_str_split PySem.F.type_str_split md_split (de_get2 hu (dv 1) (dv 2) de_str ⟨rfl, rfl, rfl, rfl⟩) (da_cons de_str da_nil)) (da_cons (de_lc false (own := [("_law_one", 12)]) rfl nd  (di_list (dv 5)) (blkOk_by (N := N__law_edited) (sc := defScope s__law_edited) (by decide +kernel)) (tgt_1 (i := 12) (by decide)) (fun _ _ _ _ _ => (pg_name (i := 12) nd rfl (Or.inl rfl))) (fun _ _ _ _ _ => (dts_one (dt_cmp od_notIn de_str (dv 12)))) (fun _ _ _ _ _ => (dv 12))) da_nil)))
      (dss_cons (ds_set 8 (de_op od_add (de_op od_add (de_slice (dv 6) do_none (do_some (de_op od_sub (dv 3) de_int))) (dv 5)) (de_slice (dv 6) (do_some (de_op od_add (de_op od_sub (dv 3) de_int) (dv 4))) do_none)) nd)
      (dss_cons (ds_set 9 (de_if (dt_cmp od_le (de_callB cd_len T.n_len bb_len (da_cons (dv 8) da_nil)) de_int) de_non (de_tup (da_cons de_str (da_cons de_str da_nil)))) nd)
      (dss_cons (ds_set 9 (de_if (dt_w (dw_and (dt_chain od_le od_le de_int (dv 3) (de_op od_add (de_callB cd_len T.n_len bb_len (da_cons (dv 6) da_nil)) de_int)) (dw_and1 (dt_chain od_le od_le de_int (dv 4) (de_op od_sub (de_op od_add (de_callB cd_len T.n_len bb_len (da_cons (dv 6) da_nil)) de_int) (dv 3)))))) (dv 9) (de_tup (da_cons de_str (da_cons de_str da_nil)))) nd)
      (dss_cons (ds_set 9 (de_if (dt_cmp (od_ne hu64) (dv 5) (dv 7)) (de_tup (da_cons de_str (da_cons de_str da_nil))) (dv 9)) nd)
      (dss_cons (ds_set 9 (de_if (dt_cmp (od_din hu) (dv 2) (dv 1)) (dv 9) (de_tup (da_cons de_str (da_cons de_str da_nil)))) nd)
      (dss_cons (ds_set 10 (de_callTy cd_list T.n_list bb_list (da_cons (dv 5) da_nil)) nd)
      (dss_cons (ds_set 11 (T.told (q := "_law_edited.<locals>.<lambda>") (k := 3) rfl rfl rfl rfl rfl TB rfl (hr.mono (by omega)) (show LamX.LamS (defScope s__law_edited) _ from LamX.lamS_by (by decide +kernel)) rfl (fun _ _ _ _ _ => rfl) (fun XWb A outer s H E f c' hr2 => by have hr_House_edit : Room _ _ := hr2; exact (de_methX T.cl_House T.t_House_edit.mt G_House_edit hr_House_edit T.t_House_edit.bi (dv 0) (da_cons (dv 2) (da_cons (dv 3) (da_cons (dv 4) (da_cons (dv 10) da_nil))))))) nd)
      (dss_cons (ds_if (dt_w (dw_or (dt_cmp (od_neL hu64) (dv 10) (dv 5)) (dw_or1 (dt_not (dt_val (de_call G__law_like hr__law_like T.t__law_like.mg T.t__law_like.fn.kp T.t__law_like.bi (da_cons (dv 11) (da_cons (dv 9) da_nil)))))))) (dss_one (ds_ret de_bl)) dss_nil)
      (dss_cons (ds_expr (de_bm0 PySem.F.plainAttrs_list PySem.F.slot_list_clear PySem.F.type_list_clear md_clear (dv 10)))
      (dss_cons (ds_expr (de_bm PySem.F.plainAttrs_dict PySem.F.slot_dict_update PySem.F.type_dict_update (md_update hu) (dv 1) (da_cons (de_if (dt_cmp od_isN (dv 9) de_non) (de_dispF (dpp_cons (dv 2) (de_bm PySem.F.plainAttrs_str PySem.F.slot_str_join PySem.F.type_str_join md_join de_str (da_cons (dv 8) da_nil)) dpp_nil)) de_dnewK) da_nil)))
      (dss_one (ds_ret de_bl))))))))))))), ?_⟩
  obtain ⟨a, p, t, m, f, row, many, more, rfl, ⟨⟨b, c, hO⟩, hp⟩, ht, htp, hT, hm, hf, hmo, k⟩ := h
  have hg := dget_hK m f
  obtain ⟨y, hy⟩ : ∃ y : Str, y = (lookM m f).getD (Str.ofString "") := ⟨_, rfl⟩
  have hgy : (dget (hK m) (Sum.inr f)).getD (DV.str (Str.ofString "")) = .str y := by
    rw [hg, hy]
    cases lookM m f <;> rfl
  have hty : TextR y := by rw [hy]; exact hm.getD f
  obtain ⟨s1, s2, s3, s4⟩ := hty.split
  have hyl := hty.len
  rw [len_tl] at hyl
  have ml := hmo.len
  wp_walk using hO, ht, hgy
  obtain ⟨olds, hol⟩ : ∃ o, o = Txt.split y (Str.ofString "
") := ⟨_, rfl⟩
  rw [← hol] at s1 s2 s3 s4
  refine ⟨by decide, by have := sizeLine_eq; omega, ?_⟩
  rw [← hol]
  have nl := newsS_len olds row many more
  have hsl := sizeLine_eq
  refine lcW_filtM DV.str DV.str (fun r => !decide (10 ∈ tl r)) more [] (fun r hr K hK => ?_) (fun r hr _ K hK => ?_) (by simp; omega) ?_
  · walk_at "go"
    exact hK
  · walk_at "go"
    exact hK
  walk_at "ev"
  have l1 := cutG_len (xs := olds) (lo := none) (hi := some (row - 1))
  have l2 := cutG_len (xs := olds) (lo := some (row - 1 + many)) (hi := none)
  have z1 : (DL.cutD (olds.map DV.str) none (some (row - 1))).length + (more.map DV.str).length ≤ sizeLine := by
    rw [cutD_map, List.length_map, List.length_map]; omega
  have z2 : (DL.cutD (olds.map DV.str) none (some (row - 1)) ++ more.map DV.str).length + (DL.cutD (olds.map DV.str) (some (row - 1 + many)) none).length ≤ sizeLine := by
    rw [cutD_map, cutD_map, List.length_append, List.length_map, List.length_map, List.length_map]; omega
  refine ⟨z1, z2, ?_⟩
  rw [news_D]
  refine dSeq_mid2 (fun S' O' => O' = O ∧ S' = [some (.ref a), some (.ref t), some (.str f), some (.int row), some (.int many), some (.lst (more.map DV.str)), some (.lst (olds.map DV.str)), some (.lst ((cleanS more).map DV.str)), some (.lst ((newsS olds row many more).map DV.str)), some (due2 olds row many more), none, none, none]) (fun R hR => ?_) ?_
  · walk_at "go"
    simp only [List.length_map]
    repeat' (refine ite_c (fun _ => ?_) (fun _ => ?_))
    all_goals
      refine hR _ _ ⟨rfl, ?_⟩
      first
        | (rw [due2_no ⟨⟨by assumption, by assumption⟩, by assumption, by assumption⟩ (by omega)]; rfl)
        | (rw [due2_house ⟨⟨by assumption, by assumption⟩, by assumption, by assumption⟩ (by omega)]; rfl)
        | (rw [due2_rows (by rintro ⟨⟨_, _⟩, _, _⟩; first | contradiction | omega)]; rfl)
  · rintro S' O' ⟨rfl, rfl⟩
    refine dSeq_mid2 (fun S' O'' => O'' = O' ∧ S' = [some (.ref a), some (.ref t), some (.str f), some (.int row), some (.int many), some (.lst (more.map DV.str)), some (.lst (olds.map DV.str)), some (.lst ((cleanS more).map DV.str)), some (.lst ((newsS olds row many more).map DV.str)), some (dueV (edR m f row many more)), none, none, none]) (fun R hR => ?_) ?_
    · walk_at "go"
      refine eqP_strs hmo.cps (fun x hx => hmo.cps x (List.mem_filter.mp hx).1) ?_
      by_cases c3 : ∀ r ∈ more, 10 ∉ tl r
      · have e1 : decide (more = cleanS more) = true := decide_eq_true ((clean_eq more).mpr c3).symm
        rw [e1]
        cases e : lookM m f with
        | none =>
          rw [e] at hg
          have hg : dget (hK m) (Sum.inr f) = none := hg
          wp_walk using ht, hg
          exact hR _ _ ⟨rfl, by rw [edR_none e]; rfl⟩
        | some z =>
          have hyz : y = z := by rw [hy, e]; rfl
          rw [e] at hg
          have hg : dget (hK m) (Sum.inr f) = some (.str z) := hg
          wp_walk using ht, hg
          exact hR _ _ ⟨rfl, by rw [edR_some e, ← hyz, show Txt.split y nlS = olds from hol.symm, due_clean c3]⟩
      · have e1 : decide (more = cleanS more) = false := decide_eq_false fun h => c3 ((clean_eq more).mp h.symm)
        rw [e1]
        cases e : lookM m f with
        | none =>
          rw [e] at hg
          have hg : dget (hK m) (Sum.inr f) = none := hg
          wp_walk using ht, hg
          exact hR _ _ ⟨rfl, by rw [edR_none e]; rfl⟩
        | some z =>
          rw [e] at hg
          have hg : dget (hK m) (Sum.inr f) = some (.str z) := hg
          wp_walk using ht, hg
          exact hR _ _ ⟨rfl, by rw [edR_some e, due_rows c3]; rfl⟩
    · rintro S' O'' ⟨rfl, rfl⟩
      walk_at "ev"
      intro hd hd0
      have n1 : a ≠ hd := ne_of hO hd0
      have n2 : p ≠ hd := ne_of hp hd0
      have n3 : t ≠ hd := ne_of ht hd0
      have n4 : T.c_tb__law_edited ≠ hd := ne_of hT hd0
      have g1 := (oset_ne (c := .lst (more.map DV.str)) n1).trans hO
      have g2 := (oset_ne (c := .lst (more.map DV.str)) n2).trans hp
      have g3 := (oset_ne (c := .lst (more.map DV.str)) n3).trans ht
      have g4 := (oset_ne (c := .lst (more.map DV.str)) n4).trans hT
      have g5 : oset O'' hd (.lst (more.map DV.str)) hd = some (.lst (more.map DV.str)) := oset_same
      have F1 : Fr O'' (oset O'' hd (.lst (more.map DV.str))) [p, t] := DL.Fr.set Fr.refl (.inr hd0)
      generalize oset O'' hd (.lst (more.map DV.str)) = O1 at g1 g2 g3 g4 g5 F1 ⊢
      refine dSeq_mid (fun S' O2 => S' = [some (.ref a), some (.ref t), some (.str f), some (.int row), some (.int many), some (.lst (more.map DV.str)), some (.lst (olds.map DV.str)), some (.lst ((cleanS more).map DV.str)), some (.lst ((newsS olds row many more).map DV.str)), some (dueV (edR m f row many more)), some (.ref hd), some (dueV (edR m f row many more)), none] ∧ (((edR m f row many more) = none ∧ (lookM m f).isSome = true ∧ O2 = oset O1 p (.dK (hK (mput m f (jn (newsS olds row many more)))))) ∨ (∃ nm, (edR m f row many more) = some nm ∧ O2 = O1))) (fun R hR => ?_) ?_
      · walk_at "ev"
        refine ⟨g4, fun C' fs O' => fs = none ∧ O' = O1 ∧ ∃ nm, TN T.c_BadHouse T.c_BadRows T.c_NoFile C' nm ∧ (edR m f row many more) = some nm, ?_, ?_⟩
        · wp_walk using g1
          refine ⟨a, p, m, hd, f, row, many, more, rfl, ⟨⟨b, c, g1⟩, g2⟩, g5, hm, hf, hmo, fun z h0 h1 => ?_, fun nm C h1 h2 => ⟨rfl, rfl, nm, h2, h1⟩⟩
          have hyz : y = z := by rw [hy, h1]; rfl
          rw [← hyz, show Txt.split y nlS = olds from hol.symm]
          walk_at "ev"
          exact hR _ _ ⟨by rw [h0]; rfl, .inl ⟨h0, by rw [h1]; rfl, rfl⟩⟩
        · rintro C' fs O' ⟨rfl, rfl, nm, h1, h2⟩
          refine ⟨rfl, nm, h1, ?_⟩
          walk_at "ev"
          exact hR _ _ ⟨by rw [h2]; rfl, .inr ⟨nm, h2, rfl⟩⟩
      · rintro S' O2 ⟨rfl, hc⟩
        have j5 : O2 hd = some (.lst (more.map DV.str)) := by
          rcases hc with ⟨_, _, rfl⟩ | ⟨_, _, rfl⟩
          · exact (oset_ne (Ne.symm n2)).trans g5
          · exact g5
        wp_walk using j5
        refine eqP_strs hmo.cps hmo.cps ?_
        have e1 : decide (more = more) = true := decide_eq_true rfl
        rw [e1]
        walk_at "go"
        refine ⟨_, _, _, 24, rfl, rfl, due_pure _, .inl rfl, .inl rfl, ?_⟩
        rcases hc with ⟨h0, h1, rfl⟩ | ⟨nm, h0, rfl⟩
        · obtain ⟨z, e⟩ := Option.isSome_iff_exists.mp h1
          have hyz : y = z := by rw [hy, e]; rfl
          have h2 := h0
          rw [edR_some e, ← hyz, show Txt.split y nlS = olds from hol.symm] at h2
          obtain ⟨c3, c4⟩ := edQ_none h2
          have hrows := hmo.rows c3
          have nok := newsS_ok (row := row) (many := many) s3 hrows
          have hs := jn_size nok (by omega)
          have e4 := strs_some (newsS olds row many more)
          have v0 : dueV (edR m f row many more) = .non := by rw [h0]; rfl
          rw [v0]
          have k3 : oset (oset O1 p (.dK (hK (mput m f (jn (newsS olds row many more)))))) hd (.lst []) t = some (.dK (hK m)) := (oset_ne n3).trans ((oset_ne htp).trans g3)
          wp_walk using j5, k3, e4, hs
          have e6 : dmerge (hK m) (dmerge [] [(Sum.inr f, DV.str (Txt.join (Str.ofString "
") (newsS olds row many more)))]) = hK (mput m f (jn (newsS olds row many more))) := dmerge_hK m f _
          have hl8 := hm.l8
          refine ⟨trivial, ?_, ?_⟩
          · rw [hK_len]
            show m.length + 1 ≤ 1000000
            omega
          · rw [e6]
            exact k _ _ (hm.put hf (edit_text s3 hrows c4) (.inl h1)) ((oset_ne (Ne.symm htp)).trans ((oset_ne n2).trans oset_same)) oset_same (DL.Fr.set (DL.Fr.set (DL.Fr.set F1 (.inl (by simp))) (.inr hd0)) (.inl (by simp)))
        · have v0 : dueV (edR m f row many more) = .tup [.str (Str.ofString "refused"), .str nm] := by rw [h0]; rfl
          rw [v0]
          have k3 : oset O2 hd (.lst []) t = some (.dK (hK m)) := (oset_ne n3).trans g3
          wp_walk using j5, k3
          intro q hq
          have n5 : t ≠ q := ne_of k3 hq
          have k2 : oset O2 hd (.lst []) p = some (.dK (hK m)) := (oset_ne n2).trans g2
          have k4 : oset (oset O2 hd (.lst [])) q (.dK []) t = some (.dK (hK m)) := (oset_ne n5).trans k3
          have hl8 := hm.l8
          rw [k4]
          refine ⟨n5, ?_, ?_⟩
          · rw [hK_len]; omega
          · rw [dmerge_nil]
            have F2 : Fr O'' (oset O2 hd (.lst [])) [p, t] := DL.Fr.set F1 (.inr hd0)
            exact k _ m hm ((oset_ne (Ne.symm htp)).trans ((oset_ne (ne_of k2 hq)).trans k2)) oset_same (DL.Fr.set (DL.Fr.set F2 (.inr (F2.none hq (by simp only [List.mem_cons, List.not_mem_nil, or_false, not_or]; exact ⟨Ne.symm (ne_of k2 hq), Ne.symm n5⟩)))) (.inl (by simp)))
theorem ok__law_pick (T : Tx K w mg) : FnOk P w K mg base CX0 2 T.f__law_pick T.d__law_pick ["_law_d", "_law_some"] (liftSp K (sp__law_pick)) := by
  refine DFun.ok T.t__law_pick.fn sc__law_pick (by decide) (by rintro _ _ _ _ ⟨_, _, _, _, rfl, _⟩; rfl) (fun cdv A outer s H E ds O Q ED hr h => ?_)
  have nd := sc__law_pick.nd
  have hu64 := hr.units
  have hu := hu_of hr
  have G__law_next := ok__law_next (P := P) (base := base) T
  have hr__law_next : Room 1 _ := hr.mono (by omega)
  refine ⟨_, (dss_one (ds_ret (de_ix (dv 1) (de_call G__law_next hr__law_next T.t__law_next.mg T.t__law_next.fn.kp T.t__law_next.bi (da_cons (dv 0) (da_cons (de_callB cd_len T.n_len bb_len (da_cons (dv 1) da_nil)) da_nil)))))), ?_⟩
  obtain ⟨a, d, c, xs, rfl, hO, hD, hs, hs', h0, h1, k⟩ := h
  walk_at "ev"
  refine seq_len hs ?_
  refine ⟨a, _, c, rfl, hO, hD, by omega, by omega, fun r c' r0 r1 hc => ?_⟩
  have hlt : r.toNat < xs.length := by omega
  refine seq_ix (hs' c') (x := xs[r.toNat]) (by rw [atI_pos r0]; exact List.getElem?_eq_getElem hlt) (k _ (List.getElem_mem _) _ hc)
theorem ok_law (T : Tx K w mg) (n : Nat) (TB : LamX.TabB base mg T.co_law T.c_tb_law) (G__law_edited : FnOk P w K mg base CX0 (30) T.f__law_edited T.d__law_edited ["_law_house", "_law_texts", "_law_file", "_law_row", "_law_many", "_law_more"] (liftSp K (sp__law_edited T.c_House T.c_tb__law_edited 0))) : FnOk P w K mg base CX0 (31) T.f_law T.d_law ["_law_script"] (liftSp K (spLawT2 T.c_tb__law_edited "_law_edited.<locals>.<lambda>" T.c_tb_law "law.<locals>.<lambda>")) := by
  refine DFun.okC T.hc_law T.t_law.fn sc_law (by decide) (by rintro _ _ _ _ ⟨_, rfl, _⟩; rfl) (fun A outer s H E ds O Q ED hr h => ?_)
  have hr__law_edited : Room (30) _ := hr.mono (by omega)
  have nd := sc_law.nd
  have hu64 := hr.units
  have hu := hu_of hr
  have G__law_dice := ok__law_dice (P := P) (base := base) T
  have hr__law_dice : Room 1 _ := hr.mono (by omega)
  have G_House___init__ := ok_House___init__ (P := P) (base := base) T
  have hr_House___init__ : Room 2 _ := hr.mono (by omega)
  have G__law_next := ok__law_next (P := P) (base := base) T
  have hr__law_next : Room 1 _ := hr.mono (by omega)
  have G__law_pick := ok__law_pick (P := P) (base := base) T
  have hr__law_pick : Room 2 _ := hr.mono (by omega)
  have G_House_lay := ok_House_lay (P := P) (base := base) T
  have hr_House_lay : Room 2 _ := hr.mono (by omega)
  have G_House_drop := ok_House_drop (P := P) (base := base) T
  have hr_House_drop : Room 2 _ := hr.mono (by omega)
  have G_House_all_files := ok_House_all_files (P := P) (base := base) T
  have hr_House_all_files : Room 1 _ := hr.mono (by omega)
  have G__law_like := ok__law_like (P := P) (base := base) T 25
  have hr__law_like : Room 26 _ := hr.mono (by omega)
  have G_House_text := ok_House_text (P := P) (base := base) T
  have hr_House_text : Room 2 _ := hr.mono (by omega)
  refine ⟨_, (dss_cons (ds_set 1 (de_call G__law_dice hr__law_dice T.t__law_dice.mg T.t__law_dice.fn.kp T.t__law_dice.bi (da_cons (dv 0) da_nil)) nd)
      (dss_cons (ds_asg (de_tup (da_cons (de_make0 T.t_House___init__.mkc G_House___init__ hr_House___init__ T.cm_House T.t_House___init__.bi) (da_cons de_dnewK da_nil))) (dg_tup (n := 2) rfl (dgs_cons (dg_name 2 nd) (dgs_cons (dg_name 3 nd) dgs_nil))))
      (dss_cons (ds_for PassesOwn.never rfl (di_range1 T.n_range (da_cons (de_call G__law_next hr__law_next T.t__law_next.mg T.t__law_next.fn.kp T.t__law_next.bi (da_cons (dv 1) (da_cons de_int da_nil))) da_nil)) (dg_name 4 nd) (dss_cons (ds_asg (de_tup (da_cons (de_ix de_str (de_call G__law_next hr__law_next T.t__law_next.mg T.t__law_next.fn.kp T.t__law_next.bi (da_cons (dv 1) (da_cons de_int da_nil)))) (da_cons (de_call G__law_next hr__law_next T.t__law_next.mg T.t__law_next.fn.kp T.t__law_next.bi (da_cons (dv 1) (da_cons de_int da_nil))) da_nil))) (dg_tup (n := 2) rfl (dgs_cons (dg_name 5 nd) (dgs_cons (dg_name 6 nd) dgs_nil))))
      (dss_cons (ds_set 7 (de_call G__law_next hr__law_next T.t__law_next.mg T.t__law_next.fn.kp T.t__law_next.bi (da_cons (dv 1) (da_cons (de_ix (de_lstF (da_cons de_int (da_cons de_int da_nil))) (de_op od_fdiv (de_call G__law_next hr__law_next T.t__law_next.mg T.t__law_next.fn.kp T.t__law_next.bi (da_cons (dv 1) (da_cons de_int da_nil))) de_int)) da_nil))) nd)
      (dss_cons (ds_setLc false 8 (own := [("_law_k", 18)]) rfl nd (sw_true rfl rfl rfl (by decide +kernel)) (di_range1 T.n_range (da_cons (dv 7) da_nil)) (blkOk_by (N := N_law) (sc := defScope s_law) (by decide +kernel)) (tgt_1 (i := 18) (by decide)) (fun _ _ _ _ _ => (pg_name (i := 18) nd rfl (Or.inl rfl))) (fun _ _ _ _ _ => dts_nil) (fun _ _ _ _ _ => (de_call G__law_pick hr__law_pick T.t__law_pick.mg T.t__law_pick.fn.kp T.t__law_pick.bi (da_cons (dv 1) (da_cons (de_lstF (da_cons de_str (da_cons de_str (da_cons de_str (da_cons de_str (da_cons de_str da_nil)))))) da_nil)))))
      (dss_cons (ds_set 9 (de_bm PySem.F.plainAttrs_str PySem.F.slot_str_join PySem.F.type_str_join md_join de_str (da_cons (dv 8) da_nil)) nd)
      (dss_cons (ds_if (dt_cmp od_lt (dv 6) de_int) (dss_cons (ds_set 11 (de_and (de_cmp od_le (de_callB cd_len T.n_len bb_len (da_cons (dv 8) da_nil)) de_int) (de_one (de_or (de_cmp (od_din hu) (dv 5) (dv 3)) (de_one (de_cmp od_lt (de_callB cd_lenD T.n_len bb_len (da_cons (dv 3) da_nil)) de_int))))) nd)
      (dss_cons (ds_set 12 (de_if (dt_val (dv 11)) de_non (de_tup (da_cons de_str (da_cons de_str da_nil)))) nd)
      (dss_cons (ds_set 13 (T.told (q := "law.<locals>.<lambda>") (k := 2) rfl rfl rfl rfl rfl TB rfl (hr.mono (by omega)) (show LamX.LamS (defScope s_law) _ from LamX.lamS_by (by decide +kernel)) rfl (fun _ _ _ _ _ => rfl) (fun XWb A outer s H E f c' hr2 => by have hr_House_lay : Room _ _ := hr2; exact (de_methX T.cl_House T.t_House_lay.mt G_House_lay hr_House_lay T.t_House_lay.bi (dv 2) (da_cons (dv 5) (da_cons (dv 9) da_nil))))) nd)
      (dss_one (ds_expr (de_bm PySem.F.plainAttrs_dict PySem.F.slot_dict_update PySem.F.type_dict_update (md_update hu) (dv 3) (da_cons (de_if (dt_val (dv 11)) (de_dispF (dpp_cons (dv 5) (dv 9) dpp_nil)) de_dnewK) da_nil))))))) (dss_one (ds_if (dt_cmp od_lt (dv 6) de_int) (dss_cons (ds_set 14 (de_bm PySem.F.plainAttrs_str PySem.F.slot_str_split PySem.F.type_str_split md_split (de_get2 hu (dv 3) (dv 5) de_str ⟨rfl, rfl, rfl, rfl⟩) (da_cons de_str da_nil)) nd)
      (dss_cons (ds_par 15 16 nd (da_cons (de_op od_add de_int (de_call G__law_next hr__law_next T.t__law_next.mg T.t__law_next.fn.kp T.t__law_next.bi (da_cons (dv 1) (da_cons (de_op od_add (de_callB cd_len T.n_len bb_len (da_cons (dv 14) da_nil)) de_int) da_nil)))) (da_cons (de_ix (de_lstF (da_cons (de_call G__law_next hr__law_next T.t__law_next.mg T.t__law_next.fn.kp T.t__law_next.bi (da_cons (dv 1) (da_cons de_int da_nil))) (da_cons (de_neg de_int) da_nil))) (de_op od_fdiv (de_call G__law_next hr__law_next T.t__law_next.mg T.t__law_next.fn.kp T.t__law_next.bi (da_cons (dv 1) (da_cons de_int da_nil))) de_int)) da_nil)))
      (dss_cons (ds_set 15 (de_ix (de_lstF (da_cons (dv 15) (da_cons (dv 15) (da_cons (dv 15) (da_cons (dv 15) (da_cons (dv 15) (da_cons (dv 15) (da_cons de_int (da_cons (de_op od_add (de_callB cd_len T.n_len bb_len (da_cons (dv 14) da_nil)) de_int) da_nil))))))))) (de_call G__law_next hr__law_next T.t__law_next.mg T.t__law_next.fn.kp T.t__law_next.bi (da_cons (dv 1) (da_cons de_int da_nil)))) nd)
      (dss_cons (ds_par3 17 12 13 nd (da_cons (de_op od_add (dv 8) (de_op od_mulL (de_lstF (da_cons de_str da_nil)) (de_callTy cd_int T.n_int bb_int (da_cons (de_cmp (od_eq hu64) (de_call G__law_next hr__law_next T.t__law_next.mg T.t__law_next.fn.kp T.t__law_next.bi (da_cons (dv 1) (da_cons de_int da_nil))) de_int) da_nil)))) (da_cons de_non (da_cons de_non da_nil))))
      (dss_one (ds_if (dt_not (dt_val (de_call G__law_edited hr__law_edited T.t__law_edited.mg T.t__law_edited.fn.kp T.t__law_edited.bi (da_cons (dv 2) (da_cons (dv 3) (da_cons (dv 5) (da_cons (dv 15) (da_cons (dv 16) (da_cons (dv 17) da_nil))))))))) (dss_one (ds_ret de_bl)) dss_nil)))))) (dss_cons (ds_set 12 (de_if (dt_cmp (od_din hu) (dv 5) (dv 3)) de_non (de_tup (da_cons de_str (da_cons de_str da_nil)))) nd)
      (dss_cons (ds_set 13 (T.toldD (q := "law.<locals>.<lambda>") (k := 2) (y := "_law_b") rfl rfl rfl rfl rfl TB rfl (hr.mono (by omega)) (show LamD N_law (defScope s_law) _ from lamD_by (by decide +kernel)) rfl rfl pe_int rfl (fun _ _ _ _ _ _ _ _ _ ht => BindsTo.of_defaults rfl ht rfl rfl rfl) (fun XWb A outer s H E f c' hr2 => by have hr_House_drop : Room _ _ := hr2; exact (de_methX T.cl_House T.t_House_drop.mt G_House_drop hr_House_drop T.t_House_drop.bi (dv 2) (da_cons (dv 5) da_nil)))) nd)
      (dss_one (ds_expr (de_bm PySem.F.plainAttrs_dict PySem.F.slot_dict_pop PySem.F.type_dict_pop md_pop (dv 3) (da_cons (dv 5) (da_cons de_non da_nil))))))))))
      (dss_cons (ds_if (dt_w (dw_or (dt_not (dt_val (de_call G__law_like hr__law_like T.t__law_like.mg T.t__law_like.fn.kp T.t__law_like.bi (da_cons (dv 13) (da_cons (dv 12) da_nil))))) (dw_or1 (dt_cmp (od_neL hu64) (de_meth0 T.cl_House T.t_House_all_files.mt G_House_all_files hr_House_all_files T.t_House_all_files.bi (dv 2)) (de_callB (cd_sortS rfl) T.n_sorted bb_sorted (da_cons (dv 3) da_nil)))))) (dss_one (ds_ret de_bl)) dss_nil)
      (dss_cons (ds_for PassesOwn.never rfl (di_str de_str) (dg_name 10 nd) (dss_cons (ds_set 12 (de_if (dt_cmp (od_din hu) (dv 10) (dv 3)) (de_dix hu (dv 3) (dv 10)) (de_tup (da_cons de_str (da_cons de_str da_nil)))) nd)
      (dss_one (ds_if (dt_cmp (od_ne hu64) (T.toldD (q := "law.<locals>.<lambda>") (k := 2) (y := "_law_c") rfl rfl rfl rfl rfl TB rfl (hr.mono (by omega)) (show LamD N_law (defScope s_law) _ from lamD_by (by decide +kernel)) rfl rfl pe_int rfl (fun _ _ _ _ _ _ _ _ _ ht => BindsTo.of_defaults rfl ht rfl rfl rfl) (fun XWb A outer s H E f c' hr2 => by have hr_House_text : Room _ _ := hr2; exact (de_methX T.cl_House T.t_House_text.mt G_House_text hr_House_text T.t_House_text.bi (dv 2) (da_cons (dv 10) da_nil)))) (dv 12)) (dss_one (ds_ret de_bl)) dss_nil))))
      (dss_one (ds_expr (de_bm PySem.F.plainAttrs_list PySem.F.slot_list_append PySem.F.type_list_append md_append (de_meth0 T.cl_House T.t_House_all_files.mt G_House_all_files hr_House_all_files T.t_House_all_files.bi (dv 2)) (da_cons de_str da_nil))))))))))))
      (dss_one (ds_ret de_bl))))), ?_⟩
  obtain ⟨ns, rfl, hn, hT1, hT2, k⟩ := h
  walk_at "ev"
  refine ⟨ns, rfl, hn, fun d c hd0 hD => ?_⟩
  walk_at "ev"
  intro a ha0
  have nda : d ≠ a := fun z => by rw [← z, oset_same] at ha0; cases ha0
  refine ⟨a, rfl, oset_same, fun p O1 hS hp hp0 F1 => ⟨rfl, fun t ht0 => ?_⟩⟩
  have L0 : LwS T.c_House T.c_tb__law_edited T.c_tb_law "_law_edited.<locals>.<lambda>" "law.<locals>.<lambda>" (oset O1 t (.dK [])) d a p t [] := by
    obtain ⟨b, e, hS⟩ := hS
    have n1 := ne_of hT1 hd0
    have n2 := ne_of hT2 hd0
    have e1 : oset O d c T.c_tb__law_edited = some (.tbl "_law_edited.<locals>.<lambda>") := (oset_ne n1).trans hT1
    have e2 : oset O d c T.c_tb_law = some (.tbl "law.<locals>.<lambda>") := (oset_ne n2).trans hT2
    have e3 : oset O d c d = some c := oset_same
    have h1 := F1.at ((oset_ne (ne_of e1 ha0)).trans e1) (by simp only [List.mem_singleton]; exact ne_of e1 ha0)
    have h2 := F1.at ((oset_ne (ne_of e2 ha0)).trans e2) (by simp only [List.mem_singleton]; exact ne_of e2 ha0)
    have h3 := F1.at ((oset_ne nda).trans e3) (by simp only [List.mem_singleton]; exact nda)
    exact ⟨⟨b, e, (oset_ne (ne_of hS ht0)).trans hS⟩, (oset_ne (ne_of hp ht0)).trans hp, oset_same, Ne.symm (ne_of hp ht0), ⟨c, (oset_ne (ne_of h3 ht0)).trans h3, hD⟩, MOk.nil, (oset_ne (ne_of h1 ht0)).trans h1, (oset_ne (ne_of h2 ht0)).trans h2⟩
  walk_at "ev"
  generalize oset O1 t (.dK []) = O2 at L0 ⊢
  clear hS hp hp0 F1 ht0 ha0 hT1 hT2 hd0 hD nda
  obtain ⟨c2, hc2, hD2⟩ := L0.dd
  walk_at "ev"
  refine ⟨d, 31, c2, rfl, hc2, hD2, by decide, by decide, fun n c3 hn0 hn1 hD3 => ?_⟩
  have L1 := L0.dice hD3
  generalize oset O2 d c3 = O3 at L1 ⊢
  walk_at "go"
  refine forW_inv (fun i S O' => ∃ (m : List (Str × Str)) (z4 z5 z6 z7 z8 z9 z10 z11 z12 z13 z14 z15 z16 z17 z18 : Option DV), S = [some (.slst (ns.map DV.int)), some (.ref d), some (.ref a), some (.ref t), z4, z5, z6, z7, z8, z9, z10, z11, z12, z13, z14, z15, z16, z17, z18] ∧ LwS T.c_House T.c_tb__law_edited T.c_tb_law "_law_edited.<locals>.<lambda>" "law.<locals>.<lambda>" O' d a p t m) ⟨[], none, none, none, none, none, none, none, none, none, none, none, none, none, none, none, rfl, L1⟩ ?_ ?_
  · rintro i S O' v nx he ⟨m, z4, z5, z6, z7, z8, z9, z10, z11, z12, z13, z14, z15, z16, z17, z18, rfl, L⟩ hnx
    walk_at "e1"
    refine dSeq_mid2 (fun S' O' => ∃ (f : Str) (w sz : Int), S' = [some (.slst (ns.map DV.int)), some (.ref d), some (.ref a), some (.ref t), some v, some (.str f), some (.int w), some (.int sz), z8, z9, z10, z11, z12, z13, z14, z15, z16, z17, z18] ∧ f ∈ files10 ∧ 0 ≤ w ∧ w < 6 ∧ 0 ≤ sz ∧ sz ≤ 62 ∧ LwS T.c_House T.c_tb__law_edited T.c_tb_law "_law_edited.<locals>.<lambda>" "law.<locals>.<lambda>" O' d a p t m) (fun R hR => ?_) ?_
    · obtain ⟨c, hc, hD⟩ := L.dd
      walk_at "ev"
      refine ⟨d, 10, c, rfl, hc, hD, by decide, by decide, fun r c1 r0 r1 hD1 => ?_⟩
      have L2 := L.dice hD1
      generalize oset O' d c1 = O5 at L2 ⊢
      clear L hc hD hD1
      obtain ⟨c, hc, hD⟩ := L2.dd
      walk_at "ev"
      obtain ⟨k0, hk0, hk1⟩ := file_at r0 r1
      refine ⟨by decide, onSome_of hk0 ⟨d, 6, c, rfl, hc, hD, by decide, by decide, fun w c2 w0 w1 hD2 => ?_⟩⟩
      have L3 := L2.dice hD2
      generalize oset O5 d c2 = O6 at L3 ⊢
      clear L2 hc hD hD2
      obtain ⟨c, hc, hD⟩ := L3.dd
      walk_at "ev"
      refine ⟨d, 8, c, rfl, hc, hD, by decide, by decide, fun q c3 q0 q1 hD3 => ?_⟩
      have L4 := L3.dice hD3
      generalize oset O6 d c3 = O7 at L4 ⊢
      clear L3 hc hD hD3
      obtain ⟨c, hc, hD⟩ := L4.dd
      walk_at "go"
      obtain ⟨mx, hm1, hm2, hm3⟩ := size_at q0 q1
      refine onSome_of hm1 ?_
      refine ⟨d, mx, c, rfl, hc, hD, by omega, by omega, fun sz c4 s0 s1 hD4 => ?_⟩
      have L5 := L4.dice hD4
      walk_at "ev"
      exact hR _ _ ⟨_, w, sz, rfl, hk1, w0, w1, s0, by omega, L5⟩
    · rintro S' O' ⟨f, w, sz, rfl, hf, w0, w1, sz0, sz1, L⟩
      refine dSeq_mid2 (fun S' O' => ∃ (rows : List Str), S' = [some (.slst (ns.map DV.int)), some (.ref d), some (.ref a), some (.ref t), some v, some (.str f), some (.int w), some (.int sz), some (.lst (rows.map DV.str)), some (.str (jn rows)), z10, z11, z12, z13, z14, z15, z16, z17, z18] ∧ (∀ r ∈ rows, Row5 r) ∧ rows.length ≤ 62 ∧ LwS T.c_House T.c_tb__law_edited T.c_tb_law "_law_edited.<locals>.<lambda>" "law.<locals>.<lambda>" O' d a p t m) (fun R hR => ?_) ?_
      · walk_at "go"
        refine lcW_by (fun acc O2 => ∃ rows : List Str, acc = rows.map DV.str ∧ (∀ r ∈ rows, Row5 r) ∧ LwS T.c_House T.c_tb__law_edited T.c_tb_law "_law_edited.<locals>.<lambda>" "law.<locals>.<lambda>" O2 d a p t m) _ [] _ ⟨[], rfl, by simp, L⟩ (by rw [List.length_map, List.length_range]; show 0 + _ < _; omega) (fun x hx acc O2 K h2 hK => ?_) (fun acc O2 h2 hl => ?_)
        · obtain ⟨k0, hk0, rfl⟩ := List.mem_map.mp hx
          obtain ⟨rs, rfl, hrs, L2⟩ := h2
          obtain ⟨c, hc, hD⟩ := L2.dd
          walk_at "go"
          refine ⟨d, .lst [.str (Str.ofString ""), .str (Str.ofString "const a = 1"), .str (Str.ofString "# x"), .str (Str.ofString "zz"), .str (Str.ofString " ")], c, _, rfl, hc, hD, rfl, fun c' => rfl, by decide, by decide, fun x hx c' hD' => ?_⟩
          obtain ⟨r, hr, rfl⟩ : ∃ r : Str, r ∈ rows5 ∧ x = .str r := by
            simp only [List.mem_cons, List.not_mem_nil, or_false] at hx
            rcases hx with rfl | rfl | rfl | rfl | rfl <;> exact ⟨_, by unfold rows5; decide, rfl⟩
          exact hK _ _ ⟨rs ++ [r], by rw [List.map_append]; rfl, fun y hy => by
            rw [List.mem_append, List.mem_singleton] at hy
            rcases hy with hy | rfl
            · exact hrs y hy
            · exact hr, L2.dice hD'⟩
        · obtain ⟨rs, rfl, hrs, L2⟩ := h2
          have hl2 : rs.length ≤ 62 := by
            rw [List.length_map, List.length_map, List.length_range] at hl
            show rs.length ≤ 62
            have : ([] : List DV).length = 0 := rfl
            omega
          have e4 := strs_some rs
          have hs := jn_size hrs (by omega)
          walk_at "ev"
          refine onSome_of e4 ⟨hs, hR _ _ ⟨rs, rfl, hrs, hl2, L2⟩⟩
      · rintro S' O' ⟨rows, rfl, hrw, hrl, L⟩
        have hg := dget_hK m f
        have L' := L
        obtain ⟨⟨hb, hc0, hO⟩, hp, ht, htp, ⟨c, hc, hD⟩, hm, hT1, hT2⟩ := L'
        have hl8 := hm.l8
        refine dSeq_mid (fun S' O' => ∃ (m' : List (Str × Str)) (r : Option Str) (y5 y6 y7 y8 y9 y10 y11 y14 y15 y16 y17 y18 : Option DV), S' = [some (.slst (ns.map DV.int)), some (.ref d), some (.ref a), some (.ref t), some v, y5, y6, y7, y8, y9, y10, y11, some (dueV r), some (dueV r), y14, y15, y16, y17, y18] ∧ LwS T.c_House T.c_tb__law_edited T.c_tb_law "_law_edited.<locals>.<lambda>" "law.<locals>.<lambda>" O' d a p t m') (fun R hR => ?_) ?_
        · walk_at "e1"
          refine ite_c (fun q => ?_) (fun q => ite_c (fun q2 => ?_) (fun q2 => ?_))
          · refine dSeq_mid2 (fun S' O2 => O2 = O' ∧ S' = [some (.slst (ns.map DV.int)), some (.ref d), some (.ref a), some (.ref t), some v, some (.str f), some (.int w), some (.int sz), some (.lst (rows.map DV.str)), some (.str (jn rows)), z10, some (.bl (layOk m f rows.length)), some (dueV (if layOk m f rows.length = true then none else some (Str.ofString "house"))), z13, z14, z15, z16, z17, z18]) (fun R hR => ?_) ?_
            · walk_at "go"
              simp only [List.length_map]
              by_cases c1 : rows.length ≤ 60
              · rw [if_pos (by omega)]
                cases e : lookM m f with
                | none =>
                  rw [e] at hg
                  have hg : dget (hK m) (Sum.inr f) = none := hg
                  wp_walk using ht, hg, hK_len
                  by_cases c2 : m.length < 8
                  · rw [if_pos (by omega)]
                    have el : layOk m f rows.length = true := by unfold layOk; rw [e, decide_eq_true c1, decide_eq_true c2]; rfl
                    have ed : decide ((m.length : Int) < 8) = true := decide_eq_true (by omega)
                    rw [ed]
                    exact hR _ _ ⟨rfl, by rw [el]; rfl⟩
                  · rw [if_neg (by omega)]
                    have el : layOk m f rows.length = false := by unfold layOk; rw [e, decide_eq_true c1, decide_eq_false c2]; rfl
                    have ed : decide ((m.length : Int) < 8) = false := decide_eq_false (by omega)
                    rw [ed]
                    exact hR _ _ ⟨rfl, by rw [el]; rfl⟩
                | some z =>
                  rw [e] at hg
                  have hg : dget (hK m) (Sum.inr f) = some (.str z) := hg
                  wp_walk using ht, hg
                  have el : layOk m f rows.length = true := by unfold layOk; rw [e, decide_eq_true c1]; rfl
                  exact hR _ _ ⟨rfl, by rw [el]; rfl⟩
              · rw [if_neg (by omega)]
                have el : layOk m f rows.length = false := by unfold layOk; rw [decide_eq_false c1]; rfl
                exact hR _ _ ⟨rfl, by rw [el]; rfl⟩
            · rintro S' O2 ⟨rfl, rfl⟩
              refine dSeq_mid (fun S' O3 => S' = [some (.slst (ns.map DV.int)), some (.ref d), some (.ref a), some (.ref t), some v, some (.str f), some (.int w), some (.int sz), some (.lst (rows.map DV.str)), some (.str (jn rows)), z10, some (.bl (layOk m f rows.length)), some (dueV (if layOk m f rows.length = true then none else some (Str.ofString "house"))), some (dueV (if layOk m f rows.length = true then none else some (Str.ofString "house"))), z14, z15, z16, z17, z18] ∧ ((layOk m f rows.length = true ∧ O3 = oset O2 p (.dK (hK (mput m f (jn rows))))) ∨ (layOk m f rows.length = false ∧ O3 = O2))) (fun R hR => ?_) ?_
              · walk_at "ev"
                refine ⟨hT2, fun C' fs O3 => fs = none ∧ O3 = O2 ∧ ∃ nm, TN T.c_BadHouse T.c_BadRows T.c_NoFile C' nm ∧ layOk m f rows.length = false ∧ nm = Str.ofString "house", ?_, ?_⟩
                · wp_walk using hO
                  refine ⟨a, p, m, f, _, nrm rows, rfl, ⟨L.hs, hp⟩, hl8, hf, ⟨nrm_ne _, by have := nrm_le (rows := rows); omega, nrm_ok hrw, (jn_nrm _).symm⟩, fun h => ?_, fun h => ?_⟩
                  · rw [layOk_nrm] at h
                    walk_at "ev"
                    exact hR _ _ ⟨by rw [if_pos h]; rfl, .inl ⟨h, rfl⟩⟩
                  · rw [layOk_nrm] at h
                    exact ⟨rfl, rfl, _, .inl ⟨rfl, rfl⟩, h, rfl⟩
                · rintro C' fs O3 ⟨rfl, rfl, nm, h1, h2, rfl⟩
                  refine ⟨rfl, _, h1, ?_⟩
                  walk_at "ev"
                  exact hR _ _ ⟨by rw [if_neg (by rw [h2]; decide)]; rfl, .inr ⟨h2, rfl⟩⟩
              · rintro S' O3 ⟨rfl, h⟩
                rcases h with ⟨h, rfl⟩ | ⟨h, rfl⟩
                · rw [h]
                  have k3 : oset O2 p (.dK (hK (mput m f (jn rows)))) t = some (.dK (hK m)) := (oset_ne htp).trans ht
                  wp_walk using k3
                  have e6 : dmerge (hK m) (dmerge [] [(Sum.inr f, DV.str (jn rows))]) = hK (mput m f (jn rows)) := dmerge_hK m f _
                  refine ⟨trivial, ?_, ?_⟩
                  · rw [hK_len]
                    show m.length + 1 ≤ 1000000
                    omega
                  · rw [e6]
                    exact hR _ _ ⟨mput m f (jn rows), none, _, _, _, _, _, _, _, _, _, _, _, _, rfl, L.put (DL.Fr.set (DL.Fr.set Fr.refl (.inl (by simp))) (.inl (by simp))) ((oset_ne (Ne.symm htp)).trans oset_same) oset_same (lay_put hm hf hrw h)⟩
                · rw [h]
                  wp_walk using ht
                  intro q' hq'
                  have k4 := (oset_ne (c := .dK []) (ne_of ht hq')).trans ht
                  rw [k4]
                  refine ⟨ne_of ht hq', ?_, ?_⟩
                  · rw [hK_len]; omega
                  · rw [dmerge_nil]
                    exact hR _ _ ⟨m, some (Str.ofString "house"), _, _, _, _, _, _, _, _, _, _, _, _, rfl, L.put (DL.Fr.set (DL.Fr.set Fr.refl (.inr hq')) (.inl (by simp))) ((oset_ne (Ne.symm htp)).trans ((oset_ne (ne_of hp hq')).trans hp)) oset_same hm⟩
          · obtain ⟨y, hy⟩ : ∃ y : Str, y = (lookM m f).getD (Str.ofString "") := ⟨_, rfl⟩
            have hgy : (dget (hK m) (Sum.inr f)).getD (DV.str (Str.ofString "")) = .str y := by
              rw [hg, hy]
              cases lookM m f <;> rfl
            have hty : TextR y := by rw [hy]; exact hm.getD f
            obtain ⟨s1, s2, s3, s4⟩ := hty.split
            have hyl := hty.len
            rw [len_tl] at hyl
            wp_walk using ht, hgy
            obtain ⟨olds, hol⟩ : ∃ o, o = Txt.split y (Str.ofString "
") := ⟨_, rfl⟩
            rw [← hol] at s1 s2 s3 s4
            refine ⟨by decide, by have := sizeLine_eq; omega, ?_⟩
            rw [← hol]
            have hlo : (((olds.map DV.str).length : Nat) : Int) = (olds.length : Int) := by rw [List.length_map]
            refine dSeq_mid2 (fun S' O' => ∃ (row many : Int), S' = [some (.slst (ns.map DV.int)), some (.ref d), some (.ref a), some (.ref t), some v, some (.str f), some (.int w), some (.int sz), some (.lst (rows.map DV.str)), some (.str (jn rows)), z10, z11, z12, z13, some (.lst (olds.map DV.str)), some (.int row), some (.int many), z17, z18] ∧ LwS T.c_House T.c_tb__law_edited T.c_tb_law "_law_edited.<locals>.<lambda>" "law.<locals>.<lambda>" O' d a p t m) (fun R hR => ?_) ?_
            · walk_at "go"
              refine ⟨d, _, c, rfl, hc, hD, by rw [hlo]; omega, by rw [hlo]; omega, fun x1 c1 x10 x11 hD1 => ?_⟩
              have L1 := L.dice hD1
              generalize oset O' d c1 = O5 at L1 ⊢
              obtain ⟨c, hc, hD⟩ := L1.dd
              walk_at "go"
              refine ⟨d, 4, c, rfl, hc, hD, by decide, by decide, fun x2 c2 x20 x21 hD2 => ?_⟩
              have L2 := L1.dice hD2
              generalize oset O5 d c2 = O6 at L2 ⊢
              obtain ⟨c, hc, hD⟩ := L2.dd
              walk_at "go"
              refine ⟨d, 20, c, rfl, hc, hD, by decide, by decide, fun x3 c3 x30 x31 hD3 => ?_⟩
              have L3 := L2.dice hD3
              generalize oset O6 d c3 = O7 at L3 ⊢
              obtain ⟨c, hc, hD⟩ := L3.dd
              obtain ⟨many, hmany⟩ := many_at (x := x2) x30 x31
              walk_at "go"
              refine onSome_of hmany ?_
              walk_at "go"
              refine ⟨d, 8, c, rfl, hc, hD, by decide, by decide, fun x4 c4 x40 x41 hD4 => ?_⟩
              have L4 := L3.dice hD4
              obtain ⟨row, hrow⟩ := row_at (x := 1 + x1) (l := ((olds.map DV.str).length : Int) + 2) x40 x41
              walk_at "go"
              refine onSome_of hrow ?_
              walk_at "go"
              exact hR _ _ ⟨row, many, rfl, L4⟩
            · rintro S' O' ⟨row, many, rfl, L⟩
              refine dSeq_mid (fun S' O' => ∃ (more : List Str), S' = [some (.slst (ns.map DV.int)), some (.ref d), some (.ref a), some (.ref t), some v, some (.str f), some (.int w), some (.int sz), some (.lst (rows.map DV.str)), some (.str (jn rows)), z10, z11, some .non, some .non, some (.lst (olds.map DV.str)), some (.int row), some (.int many), some (.lst (more.map DV.str)), z18] ∧ MoreOk more ∧ LwS T.c_House T.c_tb__law_edited T.c_tb_law "_law_edited.<locals>.<lambda>" "law.<locals>.<lambda>" O' d a p t m) (fun R hR => ?_) ?_
              · obtain ⟨c, hc, hD⟩ := L.dd
                walk_at "go"
                refine ⟨d, 12, c, rfl, hc, hD, by decide, by decide, fun x1 c1 x10 x11 hD1 => ?_⟩
                have L1 := L.dice hD1
                generalize oset O' d c1 = O5 at L1 ⊢
                walk_at "go"
                have hsl := sizeLine_eq
                by_cases q3 : x1 = 0
                · rw [if_pos q3]
                  have er : (List.replicate (Int.toNat 1) [DV.str (Str.ofString "a
b")]).flatten = [badRow].map DV.str := rfl
                  rw [er, ← List.map_append]
                  refine ⟨?_, hR _ _ ⟨rows ++ [badRow], rfl, ⟨rows, hrw, hrl, .inr rfl⟩, L1⟩⟩
                  rw [List.length_map, List.length_map]
                  show rows.length + 1 ≤ _
                  omega
                · rw [if_neg q3]
                  have er : (List.replicate (Int.toNat 0) [DV.str (Str.ofString "a
b")]).flatten = ([] : List DV) := rfl
                  rw [er, List.append_nil]
                  refine ⟨?_, hR _ _ ⟨rows, rfl, ⟨rows, hrw, hrl, .inl rfl⟩, L1⟩⟩
                  rw [List.length_map]
                  show rows.length + 0 ≤ _
                  omega
              · rintro S' O' ⟨more, rfl, hmo, L⟩
                obtain ⟨⟨hb2, hc2, hO2⟩, hp2, ht2, htp2, hd2, hm2, hT12, hT22⟩ := id L
                walk_at "go"
                refine ⟨a, p, t, m, f, row, many, more, rfl, ⟨L.hs, hp2⟩, ht2, htp2, hT12, hm2, hf, hmo, fun O3 m3 h1 h2 h3 F => ?_⟩
                walk_at "go"
                exact hR _ _ ⟨m3, none, _, _, _, _, _, _, _, _, _, _, _, _, rfl, L.put F h2 h3 h1⟩
          · cases e : lookM m f with
            | none =>
              rw [e] at hg
              have hg : dget (hK m) (Sum.inr f) = none := hg
              refine dSeq_mid2 (fun S' O3 => O3 = O' ∧ S' = [some (.slst (ns.map DV.int)), some (.ref d), some (.ref a), some (.ref t), some v, some (.str f), some (.int w), some (.int sz), some (.lst (rows.map DV.str)), some (.str (jn rows)), z10, z11, some (dueV (some (Str.ofString "file"))), some (dueV (some (Str.ofString "file"))), z14, z15, z16, z17, z18]) (fun R hR => ?_) ?_
              · wp_walk using ht, hg
                refine ⟨hT2, fun C' fs O3 => fs = none ∧ O3 = O' ∧ TN T.c_BadHouse T.c_BadRows T.c_NoFile C' (Str.ofString "file"), ?_, ?_⟩
                · wp_walk using hO
                  exact ⟨a, p, m, f, rfl, ⟨L.hs, hp⟩, fun h => (by rw [e] at h; cases h), fun h => ⟨rfl, rfl, .inr (.inr ⟨rfl, rfl⟩)⟩⟩
                · rintro C' fs O3 ⟨rfl, rfl, h1⟩
                  refine ⟨rfl, _, h1, ?_⟩
                  walk_at "ev"
                  exact hR _ _ ⟨rfl, rfl⟩
              · rintro S' O3 ⟨rfl, rfl⟩
                wp_walk using ht, hg
                exact hR _ _ ⟨m, some (Str.ofString "file"), _, _, _, _, _, _, _, _, _, _, _, _, rfl, L⟩
            | some z =>
              rw [e] at hg
              have hg : dget (hK m) (Sum.inr f) = some (.str z) := hg
              refine dSeq_mid2 (fun S' O3 => O3 = oset O' p (.dK (hK (mdrop m f))) ∧ S' = [some (.slst (ns.map DV.int)), some (.ref d), some (.ref a), some (.ref t), some v, some (.str f), some (.int w), some (.int sz), some (.lst (rows.map DV.str)), some (.str (jn rows)), z10, z11, some (dueV none), some (dueV none), z14, z15, z16, z17, z18]) (fun R hR => ?_) ?_
              · wp_walk using ht, hg
                refine ⟨hT2, fun C' fs O3 => False, ?_, fun _ _ _ h => h.elim⟩
                wp_walk using hO
                refine ⟨a, p, m, f, rfl, ⟨L.hs, hp⟩, fun h => ?_, fun h => (by rw [e] at h; cases h)⟩
                walk_at "ev"
                exact hR _ _ ⟨rfl, rfl⟩
              · rintro S' O3 ⟨rfl, rfl⟩
                have k3 : oset O' p (.dK (hK (mdrop m f))) t = some (.dK (hK m)) := (oset_ne htp).trans ht
                wp_walk using k3, hg
                show R _ _
                rw [ddrop_hK]
                exact hR _ _ ⟨mdrop m f, none, _, _, _, _, _, _, _, _, _, _, _, _, rfl, L.put (DL.Fr.set (DL.Fr.set Fr.refl (.inl (by simp))) (.inl (by simp))) ((oset_ne (Ne.symm htp)).trans oset_same) oset_same (hm.drop f)⟩
        · rintro S' O' ⟨m', r, y5, y6, y7, y8, y9, y10, y11, y14, y15, y16, y17, y18, rfl, L⟩
          obtain ⟨⟨hb3, hc3, hO3⟩, hp3, ht3, htp3, hd3, hm3, hT13, hT23⟩ := id L
          have hl83 := hm3.l8
          walk_at "go"
          refine ⟨_, _, _, 24, rfl, rfl, due_pure r, .inl rfl, .inl rfl, ?_⟩
          wp_walk using hO3
          refine ⟨a, p, m', rfl, ⟨L.hs, hp3⟩, hl83, fun ys q h1 h2 h3 => ?_⟩
          have L1 := L.new (c := .lst (ys.map DV.str)) h3
          wp_walk using L1.tt
          refine ⟨m'.map (·.1), hK_keys m', by rw [List.length_map]; omega, fun ys2 h4 h5 => ?_⟩
          have ey : ys = ys2 := rises_eq (h1.trans h4.symm) h2 h5
          subst ey
          wp_walk using oset_same
          refine eqP_strs (keys_cps hm3 h1) (keys_cps hm3 h1) ?_
          have e1 : decide (ys = ys) = true := decide_eq_true rfl
          rw [e1]
          generalize oset O' q (.lst (ys.map DV.str)) = O5 at L1 ⊢
          walk_at "e1"
          refine dSeq_mid (fun S' O' => ∃ (x4 x5 x6 x7 x8 x9 x10 x11 x12 x13 x14 x15 x16 x17 x18 : Option DV), S' = [some (.slst (ns.map DV.int)), some (.ref d), some (.ref a), some (.ref t), x4, x5, x6, x7, x8, x9, x10, x11, x12, x13, x14, x15, x16, x17, x18] ∧ LwS T.c_House T.c_tb__law_edited T.c_tb_law "_law_edited.<locals>.<lambda>" "law.<locals>.<lambda>" O' d a p t m') (fun R hR => ?_) ?_
          · obtain ⟨⟨hb5, hc5, hO5⟩, hp5, ht5, htp5, hd5, hm5, hT15, hT25⟩ := id L1
            walk_at "ev"
            refine forW_inv (fun i S O' => O' = O5 ∧ ∃ (w10 w12 : Option DV), S = [some (.slst (ns.map DV.int)), some (.ref d), some (.ref a), some (.ref t), some v, y5, y6, y7, y8, y9, w10, y11, w12, some (dueV r), y14, y15, y16, y17, y18]) ⟨rfl, _, _, rfl⟩ ?_ ?_
            · rintro i S O6 v2 nx2 he ⟨rfl, w10, w12, rfl⟩ hnx2
              rw [List.getElem?_map] at he
              obtain ⟨k0, hk0, rfl⟩ := Option.map_eq_some_iff.mp he
              have hg := dget_hK m' (Str.mk #[k0])
              cases e : lookM m' (Str.mk #[k0]) with
              | none =>
                rw [e] at hg
                have hg : dget (hK m') (Sum.inr (Str.mk #[k0])) = none := hg
                wp_walk using ht5, hg
                refine ⟨hT25, fun C' fs O3 => fs = none ∧ O3 = O6 ∧ TN T.c_BadHouse T.c_BadRows T.c_NoFile C' (Str.ofString "file"), ?_, ?_⟩
                · wp_walk using hO5
                  exact ⟨a, p, m', _, rfl, ⟨L1.hs, hp5⟩, fun z h => (by rw [e] at h; cases h), fun h => ⟨rfl, rfl, .inr (.inr ⟨rfl, rfl⟩)⟩⟩
                · rintro C' fs O3 ⟨rfl, rfl, h1⟩
                  refine ⟨rfl, _, h1, ?_⟩
                  walk_at "ev"
                  refine due_ne (by decide +kernel) ?_
                  walk_at "go"
                  exact hnx2 _ _ ⟨rfl, _, _, rfl⟩
              | some z =>
                rw [e] at hg
                have hg : dget (hK m') (Sum.inr (Str.mk #[k0])) = some (.str z) := hg
                wp_walk using ht5, hg
                refine ⟨hT25, fun _ _ _ => False, ?_, fun _ _ _ h => h.elim⟩
                wp_walk using hO5
                refine ⟨a, p, m', _, rfl, ⟨L1.hs, hp5⟩, fun z2 h => ?_, fun h => (by rw [e] at h; cases h)⟩
                rw [e] at h
                cases h
                walk_at "go"
                exact hnx2 _ _ ⟨rfl, _, _, rfl⟩
            · rintro S O6 ⟨rfl, w10, w12, rfl⟩
              walk_at "ev"
              exact hR _ _ ⟨_, _, _, _, _, _, _, _, _, _, _, _, _, _, _, rfl, L1⟩
          · rintro S' O' ⟨x4, x5, x6, x7, x8, x9, x10, x11, x12, x13, x14, x15, x16, x17, x18, rfl, L⟩
            obtain ⟨⟨hb4, hc4, hO4⟩, hp4, ht4, htp4, hd4, hm4, hT14, hT24⟩ := id L
            wp_walk using hO4
            refine ⟨a, p, m', rfl, ⟨L.hs, hp4⟩, hl83, fun ys q h1 h2 h3 => ?_⟩
            have L2 := L.new (c := .lst (ys.map DV.str)) h3
            wp_walk using oset_same
            have hyl := h1.length_eq
            rw [List.length_map] at hyl
            have hsl := sizeLine_eq
            refine ⟨by rw [List.length_map]; omega, hnx _ _ ⟨m', _, _, _, _, _, _, _, _, _, _, _, _, _, _, _, rfl, L.new h3⟩⟩
  · rintro S O' ⟨m, z4, z5, z6, z7, z8, z9, z10, z11, z12, z13, z14, z15, z16, z17, z18, rfl, L⟩
    walk_at "ev"
    exact k _
end
end W1
set_option Elab.async false
set_option linter.all false
set_option maxRecDepth 100000
namespace W1
open PySem PySem.Spec PyProof.Rows L2 TL DL
section
variable {P : Program} {w : World} {K : PySem.W.Frag} {mg : Str → Option Value} {base : Heap}
theorem l_ok (T : Tx K w mg) (TB1 : LamX.TabB base mg T.co__law_edited T.c_tb__law_edited) (TB2 : LamX.TabB base mg T.co_law T.c_tb_law) :
    FnOk P w K mg base CX0 31 T.f_law T.d_law ["_law_script"] (liftSp K (spLawT2 T.c_tb__law_edited "_law_edited.<locals>.<lambda>" T.c_tb_law "law.<locals>.<lambda>")) :=
  ok_law T 0 TB2 (ok__law_edited T 0 TB1)
end
end W1
set_option Elab.async false
set_option linter.all false
set_option maxRecDepth 100000
set_option maxHeartbeats 4000000
namespace W1
open PySem PySem.Spec PyProof.Rows L2 TL DL
theorem exm_self {K : PySem.W.Frag} {S : Addr} (h1 : PySem.W.subIn K (.ref S) (.type "BaseException") = some true) (h2 : PySem.W.isClsIn K S = true) (h3 : PySem.W.typeIn K (.ref S) = some (.type "type")) (h4 : PySem.W.subIn K (.ref S) (.ref S) = some true) : PySem.W.exmOne K (.ref S) (.ref S) = some true := by
  have e1 : (PySem.W.subIn K (.ref S) (.type "BaseException") == some true) = true := by rw [h1] <;> rfl
  have e2 : ((PySem.W.clsIn K S).isSome && PySem.W.typeIn K (.ref S) == some (.type "type")) = true := by
    have q : (PySem.W.clsIn K S).isSome = true := h2
    rw [q, h3] <;> rfl
  unfold PySem.W.exmOne
  rw [if_pos e1]
  unfold PySem.W.kitCls
  dsimp only
  rw [if_pos e2]
  exact h4
theorem all_mk {l : PySem.W.OpenLaw} {w : World} {K : PySem.W.Frag} {h : Heap} {mg : Str → Option Value} {fa : Addr} (X : K.In h) (G : h.Ns mainGlobals mg) (hfa : mg "law" = some (.ref fa))
    {c_House : Addr} (cm_House : PySem.W.nsIn K mainGlobals "House" = some (some (.ref c_House)))
    (pg_House : PySem.W.plainGet K c_House Str.empty = true) (hd_House : PySem.W.hasDictIn K c_House = true) (po_House : PySem.W.plainOver K c_House = true) (sa_House : PySem.W.findIn K (.ref c_House) "__setattr__" = some (some (.builtin "object.__setattr__")))
    (na_House_texts : PySem.W.findIn K (.ref c_House) "texts" = some none)
    (na_House_made_of : PySem.W.findIn K (.ref c_House) "made_of" = some none)
    (na_House_shown : PySem.W.findIn K (.ref c_House) "shown" = some none)
    (na_House_laid : PySem.W.findIn K (.ref c_House) "laid" = some none)
    {c_NoFile : Addr} (cm_NoFile : PySem.W.nsIn K mainGlobals "NoFile" = some (some (.ref c_NoFile))) (xp_NoFile : PySem.W.excIn K c_NoFile DL.veB "ValueError.__new__" = true) (kC_NoFile : PySem.W.keepIn K (.ref c_NoFile) = true) (eC_NoFile : PySem.W.subIn K (.ref c_NoFile) (.type "BaseException") = some true) (tC_NoFile : PySem.W.typeIn K (.ref c_NoFile) = some (.type "type")) (iC_NoFile : PySem.W.isClsIn K c_NoFile = true) (sC_NoFile : PySem.W.subIn K (.ref c_NoFile) (.ref c_NoFile) = some true)
    {c_BadRows : Addr} (cm_BadRows : PySem.W.nsIn K mainGlobals "BadRows" = some (some (.ref c_BadRows))) (xp_BadRows : PySem.W.excIn K c_BadRows DL.veB "ValueError.__new__" = true) (kC_BadRows : PySem.W.keepIn K (.ref c_BadRows) = true) (eC_BadRows : PySem.W.subIn K (.ref c_BadRows) (.type "BaseException") = some true) (tC_BadRows : PySem.W.typeIn K (.ref c_BadRows) = some (.type "type")) (iC_BadRows : PySem.W.isClsIn K c_BadRows = true) (sC_BadRows : PySem.W.subIn K (.ref c_BadRows) (.ref c_BadRows) = some true)
    {c_BadHouse : Addr} (cm_BadHouse : PySem.W.nsIn K mainGlobals "BadHouse" = some (some (.ref c_BadHouse))) (xp_BadHouse : PySem.W.excIn K c_BadHouse DL.veB "ValueError.__new__" = true) (kC_BadHouse : PySem.W.keepIn K (.ref c_BadHouse) = true) (eC_BadHouse : PySem.W.subIn K (.ref c_BadHouse) (.type "BaseException") = some true) (tC_BadHouse : PySem.W.typeIn K (.ref c_BadHouse) = some (.type "type")) (iC_BadHouse : PySem.W.isClsIn K c_BadHouse = true) (sC_BadHouse : PySem.W.subIn K (.ref c_BadHouse) (.ref c_BadHouse) = some true)
    {c_Fault : Addr} (cm_Fault : PySem.W.nsIn K mainGlobals "Fault" = some (some (.ref c_Fault)))
    {c_WholeError : Addr} (cm_WholeError : PySem.W.nsIn K mainGlobals "WholeError" = some (some (.ref c_WholeError)))
    {c_NotMade : Addr} (cm_NotMade : PySem.W.nsIn K mainGlobals "NotMade" = some (some (.ref c_NotMade)))
    (hgx_BadHouse : PySem.W.findIn K (.ref c_BadHouse) "__getattribute__" = some (some (.builtin "BaseException.__getattribute__")))
    (hkx_BadHouse : PySem.W.findIn K (.ref c_BadHouse) "__getattr__" = some none)
    (hsx_BadHouse : PySem.W.subIn K (.ref c_BadHouse) (.type "BaseException") = some true)
    (hdx_BadHouse : PySem.W.hasDictIn K c_BadHouse = true)
    (hax_BadHouse : PySem.W.findIn K (.ref c_BadHouse) "__class__" = some (some (.builtin "object.__class__")))
    (hnx_BadHouse : PySem.W.specialIn K (.builtin "object.__class__") "__get__" = some (some (.builtin "getset_descriptor.__get__")))
    (htx_BadHouse : PySem.W.takesIn K (.builtin "object.__class__") = some true)
    (hmx_BadHouse : PySem.W.mroIn K c_BadHouse (.type "object") = some true)
    (hgx_BadRows : PySem.W.findIn K (.ref c_BadRows) "__getattribute__" = some (some (.builtin "BaseException.__getattribute__")))
    (hkx_BadRows : PySem.W.findIn K (.ref c_BadRows) "__getattr__" = some none)
    (hsx_BadRows : PySem.W.subIn K (.ref c_BadRows) (.type "BaseException") = some true)
    (hdx_BadRows : PySem.W.hasDictIn K c_BadRows = true)
    (hax_BadRows : PySem.W.findIn K (.ref c_BadRows) "__class__" = some (some (.builtin "object.__class__")))
    (hnx_BadRows : PySem.W.specialIn K (.builtin "object.__class__") "__get__" = some (some (.builtin "getset_descriptor.__get__")))
    (htx_BadRows : PySem.W.takesIn K (.builtin "object.__class__") = some true)
    (hmx_BadRows : PySem.W.mroIn K c_BadRows (.type "object") = some true)
    (hgx_NoFile : PySem.W.findIn K (.ref c_NoFile) "__getattribute__" = some (some (.builtin "BaseException.__getattribute__")))
    (hkx_NoFile : PySem.W.findIn K (.ref c_NoFile) "__getattr__" = some none)
    (hsx_NoFile : PySem.W.subIn K (.ref c_NoFile) (.type "BaseException") = some true)
    (hdx_NoFile : PySem.W.hasDictIn K c_NoFile = true)
    (hax_NoFile : PySem.W.findIn K (.ref c_NoFile) "__class__" = some (some (.builtin "object.__class__")))
    (hnx_NoFile : PySem.W.specialIn K (.builtin "object.__class__") "__get__" = some (some (.builtin "getset_descriptor.__get__")))
    (htx_NoFile : PySem.W.takesIn K (.builtin "object.__class__") = some true)
    (hmx_NoFile : PySem.W.mroIn K c_NoFile (.type "object") = some true)
    (x0_BadHouse : PySem.W.exmOne K (.ref c_BadHouse) (.ref c_Fault) = some false)
    (x0_BadRows : PySem.W.exmOne K (.ref c_BadRows) (.ref c_Fault) = some false)
    (x0_NoFile : PySem.W.exmOne K (.ref c_NoFile) (.ref c_Fault) = some false)
    (x1_BadHouse : PySem.W.exmOne K (.ref c_BadHouse) (.ref c_WholeError) = some true)
    (x1_BadRows : PySem.W.exmOne K (.ref c_BadRows) (.ref c_WholeError) = some true)
    (x1_NoFile : PySem.W.exmOne K (.ref c_NoFile) (.ref c_WholeError) = some true)
    (ki_BadHouse_BadHouse : PySem.W.kitOne K (.ref c_BadHouse) (.ref c_BadHouse) = some true)
    (ki_BadHouse_BadRows : PySem.W.kitOne K (.ref c_BadHouse) (.ref c_BadRows) = some false)
    (ki_BadHouse_NoFile : PySem.W.kitOne K (.ref c_BadHouse) (.ref c_NoFile) = some false)
    (ki_BadHouse_NotMade : PySem.W.kitOne K (.ref c_BadHouse) (.ref c_NotMade) = some false)
    (ki_BadRows_BadHouse : PySem.W.kitOne K (.ref c_BadRows) (.ref c_BadHouse) = some false)
    (ki_BadRows_BadRows : PySem.W.kitOne K (.ref c_BadRows) (.ref c_BadRows) = some true)
    (ki_BadRows_NoFile : PySem.W.kitOne K (.ref c_BadRows) (.ref c_NoFile) = some false)
    (ki_BadRows_NotMade : PySem.W.kitOne K (.ref c_BadRows) (.ref c_NotMade) = some false)
    (ki_NoFile_BadHouse : PySem.W.kitOne K (.ref c_NoFile) (.ref c_BadHouse) = some false)
    (ki_NoFile_BadRows : PySem.W.kitOne K (.ref c_NoFile) (.ref c_BadRows) = some false)
    (ki_NoFile_NoFile : PySem.W.kitOne K (.ref c_NoFile) (.ref c_NoFile) = some true)
    (ki_NoFile_NotMade : PySem.W.kitOne K (.ref c_NoFile) (.ref c_NotMade) = some false)
    {f__wall : Addr} {od__wall an__wall : Option Addr} {sl__wall : Array (Option Value)} {oc__wall kV__wall dc__wall pm__wall cd__wall ct__wall : Value}
    (a__wall : PySem.W.nsIn K mainGlobals "_wall" = some (some (.ref f__wall)))
    (l__wall : K.lookup f__wall = some ⟨oc__wall, od__wall, .func (PySem.W.fnOf "_wall" "_wall" (defArgs s__wall) (defBody s__wall) (defScope s__wall) .none kV__wall dc__wall pm__wall an__wall cd__wall ct__wall), sl__wall⟩) (c__wall : PySem.W.codeIn K cd__wall "_wall" = true) (k__wall : PySem.W.keepIn K (.ref f__wall) = true)
    {f_is_name : Addr} {od_is_name an_is_name : Option Addr} {sl_is_name : Array (Option Value)} {oc_is_name kV_is_name dc_is_name pm_is_name cd_is_name ct_is_name : Value}
    (a_is_name : PySem.W.nsIn K mainGlobals "is_name" = some (some (.ref f_is_name)))
    (l_is_name : K.lookup f_is_name = some ⟨oc_is_name, od_is_name, .func (PySem.W.fnOf "is_name" "is_name" (defArgs s_is_name) (defBody s_is_name) (defScope s_is_name) .none kV_is_name dc_is_name pm_is_name an_is_name cd_is_name ct_is_name), sl_is_name⟩) (c_is_name : PySem.W.codeIn K cd_is_name "is_name" = true) (k_is_name : PySem.W.keepIn K (.ref f_is_name) = true)
    {f_is_text : Addr} {od_is_text an_is_text : Option Addr} {sl_is_text : Array (Option Value)} {oc_is_text kV_is_text dc_is_text pm_is_text cd_is_text ct_is_text : Value}
    (a_is_text : PySem.W.nsIn K mainGlobals "is_text" = some (some (.ref f_is_text)))
    (l_is_text : K.lookup f_is_text = some ⟨oc_is_text, od_is_text, .func (PySem.W.fnOf "is_text" "is_text" (defArgs s_is_text) (defBody s_is_text) (defScope s_is_text) .none kV_is_text dc_is_text pm_is_text an_is_text cd_is_text ct_is_text), sl_is_text⟩) (c_is_text : PySem.W.codeIn K cd_is_text "is_text" = true) (k_is_text : PySem.W.keepIn K (.ref f_is_text) = true)
    {f_House___init__ : Addr} {od_House___init__ an_House___init__ : Option Addr} {sl_House___init__ : Array (Option Value)} {oc_House___init__ kV_House___init__ dc_House___init__ pm_House___init__ cd_House___init__ ct_House___init__ : Value}
    (a_House___init__ : PySem.W.findIn K (.ref c_House) "__init__" = some (some (.ref f_House___init__)))
    (l_House___init__ : K.lookup f_House___init__ = some ⟨oc_House___init__, od_House___init__, .func (PySem.W.fnOf "__init__" "House.__init__" (defArgs s_House___init__) (defBody s_House___init__) (defScope s_House___init__) .none kV_House___init__ dc_House___init__ pm_House___init__ an_House___init__ cd_House___init__ ct_House___init__), sl_House___init__⟩) (c_House___init__ : PySem.W.codeIn K cd_House___init__ "House.__init__" = true) (k_House___init__ : PySem.W.keepIn K (.ref f_House___init__) = true)
    (i_House___init__ : PySem.W.isFn K (.ref f_House___init__) = true)
    (mk_House___init__ : PySem.W.makesIn K c_House = true) (kc_House___init__ : PySem.W.keepIn K (.ref c_House) = true)
    {f_House_need : Addr} {od_House_need an_House_need : Option Addr} {sl_House_need : Array (Option Value)} {oc_House_need kV_House_need dc_House_need pm_House_need cd_House_need ct_House_need : Value}
    (a_House_need : PySem.W.findIn K (.ref c_House) "need" = some (some (.ref f_House_need)))
    (l_House_need : K.lookup f_House_need = some ⟨oc_House_need, od_House_need, .func (PySem.W.fnOf "need" "House.need" (defArgs s_House_need) (defBody s_House_need) (defScope s_House_need) .none kV_House_need dc_House_need pm_House_need an_House_need cd_House_need ct_House_need), sl_House_need⟩) (c_House_need : PySem.W.codeIn K cd_House_need "House.need" = true) (k_House_need : PySem.W.keepIn K (.ref f_House_need) = true)
    (i_House_need : PySem.W.isFn K (.ref f_House_need) = true)
    {f_House_lay : Addr} {od_House_lay an_House_lay : Option Addr} {sl_House_lay : Array (Option Value)} {oc_House_lay kV_House_lay dc_House_lay pm_House_lay cd_House_lay ct_House_lay : Value}
    (a_House_lay : PySem.W.findIn K (.ref c_House) "lay" = some (some (.ref f_House_lay)))
    (l_House_lay : K.lookup f_House_lay = some ⟨oc_House_lay, od_House_lay, .func (PySem.W.fnOf "lay" "House.lay" (defArgs s_House_lay) (defBody s_House_lay) (defScope s_House_lay) .none kV_House_lay dc_House_lay pm_House_lay an_House_lay cd_House_lay ct_House_lay), sl_House_lay⟩) (c_House_lay : PySem.W.codeIn K cd_House_lay "House.lay" = true) (k_House_lay : PySem.W.keepIn K (.ref f_House_lay) = true)
    (i_House_lay : PySem.W.isFn K (.ref f_House_lay) = true)
    {f_House_edit : Addr} {od_House_edit an_House_edit : Option Addr} {sl_House_edit : Array (Option Value)} {oc_House_edit kV_House_edit dc_House_edit pm_House_edit cd_House_edit ct_House_edit : Value}
    (a_House_edit : PySem.W.findIn K (.ref c_House) "edit" = some (some (.ref f_House_edit)))
    (l_House_edit : K.lookup f_House_edit = some ⟨oc_House_edit, od_House_edit, .func (PySem.W.fnOf "edit" "House.edit" (defArgs s_House_edit) (defBody s_House_edit) (defScope s_House_edit) .none kV_House_edit dc_House_edit pm_House_edit an_House_edit cd_House_edit ct_House_edit), sl_House_edit⟩) (c_House_edit : PySem.W.codeIn K cd_House_edit "House.edit" = true) (k_House_edit : PySem.W.keepIn K (.ref f_House_edit) = true)
    (i_House_edit : PySem.W.isFn K (.ref f_House_edit) = true)
    {f_House_drop : Addr} {od_House_drop an_House_drop : Option Addr} {sl_House_drop : Array (Option Value)} {oc_House_drop kV_House_drop dc_House_drop pm_House_drop cd_House_drop ct_House_drop : Value}
    (a_House_drop : PySem.W.findIn K (.ref c_House) "drop" = some (some (.ref f_House_drop)))
    (l_House_drop : K.lookup f_House_drop = some ⟨oc_House_drop, od_House_drop, .func (PySem.W.fnOf "drop" "House.drop" (defArgs s_House_drop) (defBody s_House_drop) (defScope s_House_drop) .none kV_House_drop dc_House_drop pm_House_drop an_House_drop cd_House_drop ct_House_drop), sl_House_drop⟩) (c_House_drop : PySem.W.codeIn K cd_House_drop "House.drop" = true) (k_House_drop : PySem.W.keepIn K (.ref f_House_drop) = true)
    (i_House_drop : PySem.W.isFn K (.ref f_House_drop) = true)
    {f_House_text : Addr} {od_House_text an_House_text : Option Addr} {sl_House_text : Array (Option Value)} {oc_House_text kV_House_text dc_House_text pm_House_text cd_House_text ct_House_text : Value}
    (a_House_text : PySem.W.findIn K (.ref c_House) "text" = some (some (.ref f_House_text)))
    (l_House_text : K.lookup f_House_text = some ⟨oc_House_text, od_House_text, .func (PySem.W.fnOf "text" "House.text" (defArgs s_House_text) (defBody s_House_text) (defScope s_House_text) .none kV_House_text dc_House_text pm_House_text an_House_text cd_House_text ct_House_text), sl_House_text⟩) (c_House_text : PySem.W.codeIn K cd_House_text "House.text" = true) (k_House_text : PySem.W.keepIn K (.ref f_House_text) = true)
    (i_House_text : PySem.W.isFn K (.ref f_House_text) = true)
    {f_House_all_files : Addr} {od_House_all_files an_House_all_files : Option Addr} {sl_House_all_files : Array (Option Value)} {oc_House_all_files kV_House_all_files dc_House_all_files pm_House_all_files cd_House_all_files ct_House_all_files : Value}
    (a_House_all_files : PySem.W.findIn K (.ref c_House) "all_files" = some (some (.ref f_House_all_files)))
    (l_House_all_files : K.lookup f_House_all_files = some ⟨oc_House_all_files, od_House_all_files, .func (PySem.W.fnOf "all_files" "House.all_files" (defArgs s_House_all_files) (defBody s_House_all_files) (defScope s_House_all_files) .none kV_House_all_files dc_House_all_files pm_House_all_files an_House_all_files cd_House_all_files ct_House_all_files), sl_House_all_files⟩) (c_House_all_files : PySem.W.codeIn K cd_House_all_files "House.all_files" = true) (k_House_all_files : PySem.W.keepIn K (.ref f_House_all_files) = true)
    (i_House_all_files : PySem.W.isFn K (.ref f_House_all_files) = true)
    {f_House_make : Addr} {od_House_make an_House_make : Option Addr} {sl_House_make : Array (Option Value)} {oc_House_make kV_House_make dc_House_make pm_House_make cd_House_make ct_House_make : Value}
    (a_House_make : PySem.W.findIn K (.ref c_House) "make" = some (some (.ref f_House_make)))
    (l_House_make : K.lookup f_House_make = some ⟨oc_House_make, od_House_make, .func (PySem.W.fnOf "make" "House.make" (defArgs s_House_make) (defBody s_House_make) (defScope s_House_make) .none kV_House_make dc_House_make pm_House_make an_House_make cd_House_make ct_House_make), sl_House_make⟩) (c_House_make : PySem.W.codeIn K cd_House_make "House.make" = true) (k_House_make : PySem.W.keepIn K (.ref f_House_make) = true)
    (i_House_make : PySem.W.isFn K (.ref f_House_make) = true)
    {f_House_faces : Addr} {od_House_faces an_House_faces : Option Addr} {sl_House_faces : Array (Option Value)} {oc_House_faces kV_House_faces dc_House_faces pm_House_faces cd_House_faces ct_House_faces : Value}
    (a_House_faces : PySem.W.findIn K (.ref c_House) "faces" = some (some (.ref f_House_faces)))
    (l_House_faces : K.lookup f_House_faces = some ⟨oc_House_faces, od_House_faces, .func (PySem.W.fnOf "faces" "House.faces" (defArgs s_House_faces) (defBody s_House_faces) (defScope s_House_faces) .none kV_House_faces dc_House_faces pm_House_faces an_House_faces cd_House_faces ct_House_faces), sl_House_faces⟩) (c_House_faces : PySem.W.codeIn K cd_House_faces "House.faces" = true) (k_House_faces : PySem.W.keepIn K (.ref f_House_faces) = true)
    (i_House_faces : PySem.W.isFn K (.ref f_House_faces) = true)
    {f_House_image : Addr} {od_House_image an_House_image : Option Addr} {sl_House_image : Array (Option Value)} {oc_House_image kV_House_image dc_House_image pm_House_image cd_House_image ct_House_image : Value}
    (a_House_image : PySem.W.findIn K (.ref c_House) "image" = some (some (.ref f_House_image)))
    (l_House_image : K.lookup f_House_image = some ⟨oc_House_image, od_House_image, .func (PySem.W.fnOf "image" "House.image" (defArgs s_House_image) (defBody s_House_image) (defScope s_House_image) .none kV_House_image dc_House_image pm_House_image an_House_image cd_House_image ct_House_image), sl_House_image⟩) (c_House_image : PySem.W.codeIn K cd_House_image "House.image" = true) (k_House_image : PySem.W.keepIn K (.ref f_House_image) = true)
    (i_House_image : PySem.W.isFn K (.ref f_House_image) = true)
    {f_House_need_made : Addr} {od_House_need_made an_House_need_made : Option Addr} {sl_House_need_made : Array (Option Value)} {oc_House_need_made kV_House_need_made dc_House_need_made pm_House_need_made cd_House_need_made ct_House_need_made : Value}
    (a_House_need_made : PySem.W.findIn K (.ref c_House) "need_made" = some (some (.ref f_House_need_made)))
    (l_House_need_made : K.lookup f_House_need_made = some ⟨oc_House_need_made, od_House_need_made, .func (PySem.W.fnOf "need_made" "House.need_made" (defArgs s_House_need_made) (defBody s_House_need_made) (defScope s_House_need_made) .none kV_House_need_made dc_House_need_made pm_House_need_made an_House_need_made cd_House_need_made ct_House_need_made), sl_House_need_made⟩) (c_House_need_made : PySem.W.codeIn K cd_House_need_made "House.need_made" = true) (k_House_need_made : PySem.W.keepIn K (.ref f_House_need_made) = true)
    (i_House_need_made : PySem.W.isFn K (.ref f_House_need_made) = true)
    {f__law_dice : Addr} {od__law_dice an__law_dice : Option Addr} {sl__law_dice : Array (Option Value)} {oc__law_dice kV__law_dice dc__law_dice pm__law_dice cd__law_dice ct__law_dice : Value}
    (a__law_dice : PySem.W.nsIn K mainGlobals "_law_dice" = some (some (.ref f__law_dice)))
    (l__law_dice : K.lookup f__law_dice = some ⟨oc__law_dice, od__law_dice, .func (PySem.W.fnOf "_law_dice" "_law_dice" (defArgs s__law_dice) (defBody s__law_dice) (defScope s__law_dice) .none kV__law_dice dc__law_dice pm__law_dice an__law_dice cd__law_dice ct__law_dice), sl__law_dice⟩) (c__law_dice : PySem.W.codeIn K cd__law_dice "_law_dice" = true) (k__law_dice : PySem.W.keepIn K (.ref f__law_dice) = true)
    {f__law_next : Addr} {od__law_next an__law_next : Option Addr} {sl__law_next : Array (Option Value)} {oc__law_next kV__law_next dc__law_next pm__law_next cd__law_next ct__law_next : Value}
    (a__law_next : PySem.W.nsIn K mainGlobals "_law_next" = some (some (.ref f__law_next)))
    (l__law_next : K.lookup f__law_next = some ⟨oc__law_next, od__law_next, .func (PySem.W.fnOf "_law_next" "_law_next" (defArgs s__law_next) (defBody s__law_next) (defScope s__law_next) .none kV__law_next dc__law_next pm__law_next an__law_next cd__law_next ct__law_next), sl__law_next⟩) (c__law_next : PySem.W.codeIn K cd__law_next "_law_next" = true) (k__law_next : PySem.W.keepIn K (.ref f__law_next) = true)
    {f__law_like : Addr} {od__law_like an__law_like : Option Addr} {sl__law_like : Array (Option Value)} {oc__law_like kV__law_like dc__law_like pm__law_like cd__law_like ct__law_like : Value}
    (a__law_like : PySem.W.nsIn K mainGlobals "_law_like" = some (some (.ref f__law_like)))
    (l__law_like : K.lookup f__law_like = some ⟨oc__law_like, od__law_like, .func (PySem.W.fnOf "_law_like" "_law_like" (defArgs s__law_like) (defBody s__law_like) (defScope s__law_like) .none kV__law_like dc__law_like pm__law_like an__law_like cd__law_like ct__law_like), sl__law_like⟩) (c__law_like : PySem.W.codeIn K cd__law_like "_law_like" = true) (k__law_like : PySem.W.keepIn K (.ref f__law_like) = true)
    {f__law_pick : Addr} {od__law_pick an__law_pick : Option Addr} {sl__law_pick : Array (Option Value)} {oc__law_pick kV__law_pick dc__law_pick pm__law_pick cd__law_pick ct__law_pick : Value}
    (a__law_pick : PySem.W.nsIn K mainGlobals "_law_pick" = some (some (.ref f__law_pick)))
    (l__law_pick : K.lookup f__law_pick = some ⟨oc__law_pick, od__law_pick, .func (PySem.W.fnOf "_law_pick" "_law_pick" (defArgs s__law_pick) (defBody s__law_pick) (defScope s__law_pick) .none kV__law_pick dc__law_pick pm__law_pick an__law_pick cd__law_pick ct__law_pick), sl__law_pick⟩) (c__law_pick : PySem.W.codeIn K cd__law_pick "_law_pick" = true) (k__law_pick : PySem.W.keepIn K (.ref f__law_pick) = true)
    {f__law_told : Addr} {od__law_told an__law_told : Option Addr} {sl__law_told : Array (Option Value)} {oc__law_told kV__law_told dc__law_told pm__law_told cd__law_told ct__law_told : Value}
    (a__law_told : PySem.W.nsIn K mainGlobals "_law_told" = some (some (.ref f__law_told)))
    (l__law_told : K.lookup f__law_told = some ⟨oc__law_told, od__law_told, .func (PySem.W.fnOf "_law_told" "_law_told" (defArgs s__law_told) (defBody s__law_told) (defScope s__law_told) .none kV__law_told dc__law_told pm__law_told an__law_told cd__law_told ct__law_told), sl__law_told⟩) (c__law_told : PySem.W.codeIn K cd__law_told "_law_told" = true) (k__law_told : PySem.W.keepIn K (.ref f__law_told) = true)
    {f__law_edited : Addr} {od__law_edited an__law_edited : Option Addr} {sl__law_edited : Array (Option Value)} {oc__law_edited kV__law_edited dc__law_edited pm__law_edited ct__law_edited : Value}
    (a__law_edited : PySem.W.nsIn K mainGlobals "_law_edited" = some (some (.ref f__law_edited)))
    {co__law_edited tb__law_edited : Addr} {ce__law_edited : Value} {cx__law_edited : Option Addr} {cv__law_edited : Array Value} {cs__law_edited : Array (Option Value)} (l__law_edited : K.lookup f__law_edited = some ⟨oc__law_edited, od__law_edited, .func (PySem.W.fnOf "_law_edited" "_law_edited" (defArgs s__law_edited) (defBody s__law_edited) (defScope s__law_edited) .none kV__law_edited dc__law_edited pm__law_edited an__law_edited (.ref co__law_edited) ct__law_edited), sl__law_edited⟩) (c__law_edited : PySem.W.codeIn K (.ref co__law_edited) "_law_edited" = true) (k__law_edited : PySem.W.keepIn K (.ref f__law_edited) = true)
    (lc__law_edited : K.lookup co__law_edited = some ⟨ce__law_edited, cx__law_edited, .fields cv__law_edited, cs__law_edited⟩) (lt__law_edited : cv__law_edited[11]? = some (.ref tb__law_edited)) (ln__law_edited : K.lookup tb__law_edited = none)
    {f_law : Addr} {od_law an_law : Option Addr} {sl_law : Array (Option Value)} {oc_law kV_law dc_law pm_law ct_law : Value}
    (a_law : PySem.W.nsIn K mainGlobals "law" = some (some (.ref f_law)))
    {co_law tb_law : Addr} {ce_law : Value} {cx_law : Option Addr} {cv_law : Array Value} {cs_law : Array (Option Value)} (l_law : K.lookup f_law = some ⟨oc_law, od_law, .func (PySem.W.fnOf "law" "law" (defArgs s_law) (defBody s_law) (defScope s_law) .none kV_law dc_law pm_law an_law (.ref co_law) ct_law), sl_law⟩) (c_law : PySem.W.codeIn K (.ref co_law) "law" = true) (k_law : PySem.W.keepIn K (.ref f_law) = true)
    (lc_law : K.lookup co_law = some ⟨ce_law, cx_law, .fields cv_law, cs_law⟩) (lt_law : cv_law[11]? = some (.ref tb_law)) (ln_law : K.lookup tb_law = none)
    (n_len : PySem.W.nsIn K mainGlobals "len" = some none)
    (n_list : PySem.W.nsIn K mainGlobals "list" = some none)
    (n_sorted : PySem.W.nsIn K mainGlobals "sorted" = some none)
    (n_int : PySem.W.nsIn K mainGlobals "int" = some none)
    (n_isinstance : PySem.W.nsIn K mainGlobals "isinstance" = some none)
    (n_tuple : PySem.W.nsIn K mainGlobals "tuple" = some none)
    (n_bool : PySem.W.nsIn K mainGlobals "bool" = some none)
    (n_str : PySem.W.nsIn K mainGlobals "str" = some none)
    (n_range : PySem.W.nsIn K mainGlobals "range" = some none)
    {z_LONG : Tok} (m_LONG : PySem.W.nsIn K mainGlobals "LONG" = some (some (Value.int 6 z_LONG)))
    {z_LETTERS : Tok} (m_LETTERS : PySem.W.nsIn K mainGlobals "LETTERS" = some (some (Value.str "abcdefghijklmnopqrstuvwxyz" z_LETTERS)))
    {z_MOST_ROWS : Tok} (m_MOST_ROWS : PySem.W.nsIn K mainGlobals "MOST_ROWS" = some (some (Value.int 60 z_MOST_ROWS)))
    {z_MOST_FILES : Tok} (m_MOST_FILES : PySem.W.nsIn K mainGlobals "MOST_FILES" = some (some (Value.int 8 z_MOST_FILES)))
    (ne_tb : tb__law_edited ≠ tb_law)
    : ∃ (fd : FuncData) (c P c2 P2 : Addr) (qs qs2 : Str), PySem.W.tabIn K "_law_edited" = some (c, P) ∧ K.lookup P = none ∧ PySem.W.tabIn K "law" = some (c2, P2) ∧ K.lookup P2 = none ∧ P ≠ P2 ∧ (∀ (s : Shared) (v : Value), BindsTo s fd ⟨[v], []⟩ [("_law_script", v)]) ∧ ∀ base : Heap, K.In base → base.Ns mainGlobals mg → LamX.TabB base mg c P → LamX.TabB base mg c2 P2 → FnOk l.prog w K mg base CX0 31 fa fd ["_law_script"] (liftSp K (spLawT2 P qs P2 qs2)) := by
  have e := hfa.symm.trans (PySem.W.mg_of X G a_law)
  cases e
  exact ⟨(PySem.W.fnOf "law" "law" (defArgs s_law) (defBody s_law) (defScope s_law) .none kV_law dc_law pm_law an_law (.ref co_law) ct_law), co__law_edited, tb__law_edited, co_law, tb_law, _, _, DL.tabIn_of a__law_edited l__law_edited rfl lc__law_edited lt__law_edited, ln__law_edited, DL.tabIn_of a_law l_law rfl lc_law lt_law, ln_law, ne_tb, fun s v => .of_eq rfl, fun base _ _ TB TB2 => l_ok ({ c_House := c_House, cl_House := ⟨pg_House, hd_House, po_House, sa_House⟩, cm_House := PySem.W.mg_of X G cm_House, na_House_texts := na_House_texts, na_House_made_of := na_House_made_of, na_House_shown := na_House_shown, na_House_laid := na_House_laid, c_NoFile := c_NoFile, cm_NoFile := PySem.W.mg_of X G cm_NoFile, xp_NoFile := xp_NoFile, kp_NoFile := kC_NoFile, sb_NoFile := eC_NoFile, tp_NoFile := tC_NoFile, te_NoFile := exm_self eC_NoFile iC_NoFile tC_NoFile sC_NoFile, c_BadRows := c_BadRows, cm_BadRows := PySem.W.mg_of X G cm_BadRows, xp_BadRows := xp_BadRows, kp_BadRows := kC_BadRows, sb_BadRows := eC_BadRows, tp_BadRows := tC_BadRows, te_BadRows := exm_self eC_BadRows iC_BadRows tC_BadRows sC_BadRows, c_BadHouse := c_BadHouse, cm_BadHouse := PySem.W.mg_of X G cm_BadHouse, xp_BadHouse := xp_BadHouse, kp_BadHouse := kC_BadHouse, sb_BadHouse := eC_BadHouse, tp_BadHouse := tC_BadHouse, te_BadHouse := exm_self eC_BadHouse iC_BadHouse tC_BadHouse sC_BadHouse, c_Fault := c_Fault, cm_Fault := PySem.W.mg_of X G cm_Fault, c_WholeError := c_WholeError, cm_WholeError := PySem.W.mg_of X G cm_WholeError, c_NotMade := c_NotMade, cm_NotMade := PySem.W.mg_of X G cm_NotMade, ec_BadHouse := ⟨hgx_BadHouse, hkx_BadHouse, hsx_BadHouse, hdx_BadHouse, hax_BadHouse, hnx_BadHouse, htx_BadHouse, hmx_BadHouse⟩, ec_BadRows := ⟨hgx_BadRows, hkx_BadRows, hsx_BadRows, hdx_BadRows, hax_BadRows, hnx_BadRows, htx_BadRows, hmx_BadRows⟩, ec_NoFile := ⟨hgx_NoFile, hkx_NoFile, hsx_NoFile, hdx_NoFile, hax_NoFile, hnx_NoFile, htx_NoFile, hmx_NoFile⟩, x0_BadHouse := x0_BadHouse, x0_BadRows := x0_BadRows, x0_NoFile := x0_NoFile, x1_BadHouse := x1_BadHouse, x1_BadRows := x1_BadRows, x1_NoFile := x1_NoFile, ki_BadHouse_BadHouse := ki_BadHouse_BadHouse, ki_BadHouse_BadRows := ki_BadHouse_BadRows, ki_BadHouse_NoFile := ki_BadHouse_NoFile, ki_BadHouse_NotMade := ki_BadHouse_NotMade, ki_BadRows_BadHouse := ki_BadRows_BadHouse, ki_BadRows_BadRows := ki_BadRows_BadRows, ki_BadRows_NoFile := ki_BadRows_NoFile, ki_BadRows_NotMade := ki_BadRows_NotMade, ki_NoFile_BadHouse := ki_NoFile_BadHouse, ki_NoFile_BadRows := ki_NoFile_BadRows, ki_NoFile_NoFile := ki_NoFile_NoFile, ki_NoFile_NotMade := ki_NoFile_NotMade, f__wall := f__wall, d__wall := (PySem.W.fnOf "_wall" "_wall" (defArgs s__wall) (defBody s__wall) (defScope s__wall) .none kV__wall dc__wall pm__wall an__wall cd__wall ct__wall), t__wall := ⟨fun_mk (st := s__wall) l__wall c__wall k__wall, (fun_mk (st := s__wall) l__wall c__wall k__wall).binds (ps := ["k"]) (fun _ _ _ _ _ _ us hl => match us, hl with | [_], _ => rfl), PySem.W.mg_of X G a__wall⟩, f_is_name := f_is_name, d_is_name := (PySem.W.fnOf "is_name" "is_name" (defArgs s_is_name) (defBody s_is_name) (defScope s_is_name) .none kV_is_name dc_is_name pm_is_name an_is_name cd_is_name ct_is_name), t_is_name := ⟨fun_mk (st := s_is_name) l_is_name c_is_name k_is_name, (fun_mk (st := s_is_name) l_is_name c_is_name k_is_name).binds (ps := ["word"]) (fun _ _ _ _ _ _ us hl => match us, hl with | [_], _ => rfl), PySem.W.mg_of X G a_is_name⟩, f_is_text := f_is_text, d_is_text := (PySem.W.fnOf "is_text" "is_text" (defArgs s_is_text) (defBody s_is_text) (defScope s_is_text) .none kV_is_text dc_is_text pm_is_text an_is_text cd_is_text ct_is_text), t_is_text := ⟨fun_mk (st := s_is_text) l_is_text c_is_text k_is_text, (fun_mk (st := s_is_text) l_is_text c_is_text k_is_text).binds (ps := ["text"]) (fun _ _ _ _ _ _ us hl => match us, hl with | [_], _ => rfl), PySem.W.mg_of X G a_is_text⟩, f_House___init__ := f_House___init__, d_House___init__ := (PySem.W.fnOf "__init__" "House.__init__" (defArgs s_House___init__) (defBody s_House___init__) (defScope s_House___init__) .none kV_House___init__ dc_House___init__ pm_House___init__ an_House___init__ cd_House___init__ ct_House___init__), t_House___init__ := ⟨fun_mk (st := s_House___init__) l_House___init__ c_House___init__ k_House___init__, (fun_mk (st := s_House___init__) l_House___init__ c_House___init__ k_House___init__).binds (ps := ["self"]) (fun _ _ _ _ _ _ us hl => match us, hl with | [_], _ => rfl), ⟨mk_House___init__, a_House___init__, i_House___init__, kc_House___init__⟩⟩, f_House_need := f_House_need, d_House_need := (PySem.W.fnOf "need" "House.need" (defArgs s_House_need) (defBody s_House_need) (defScope s_House_need) .none kV_House_need dc_House_need pm_House_need an_House_need cd_House_need ct_House_need), t_House_need := ⟨fun_mk (st := s_House_need) l_House_need c_House_need k_House_need, (fun_mk (st := s_House_need) l_House_need c_House_need k_House_need).binds (ps := ["self", "file"]) (fun _ _ _ _ _ _ us hl => match us, hl with | [_, _], _ => rfl), ⟨a_House_need, i_House_need, k_House_need⟩⟩, f_House_lay := f_House_lay, d_House_lay := (PySem.W.fnOf "lay" "House.lay" (defArgs s_House_lay) (defBody s_House_lay) (defScope s_House_lay) .none kV_House_lay dc_House_lay pm_House_lay an_House_lay cd_House_lay ct_House_lay), t_House_lay := ⟨fun_mk (st := s_House_lay) l_House_lay c_House_lay k_House_lay, (fun_mk (st := s_House_lay) l_House_lay c_House_lay k_House_lay).binds (ps := ["self", "file", "text"]) (fun _ _ _ _ _ _ us hl => match us, hl with | [_, _, _], _ => rfl), ⟨a_House_lay, i_House_lay, k_House_lay⟩⟩, f_House_edit := f_House_edit, d_House_edit := (PySem.W.fnOf "edit" "House.edit" (defArgs s_House_edit) (defBody s_House_edit) (defScope s_House_edit) .none kV_House_edit dc_House_edit pm_House_edit an_House_edit cd_House_edit ct_House_edit), t_House_edit := ⟨fun_mk (st := s_House_edit) l_House_edit c_House_edit k_House_edit, (fun_mk (st := s_House_edit) l_House_edit c_House_edit k_House_edit).binds (ps := ["self", "file", "row", "many", "rows"]) (fun _ _ _ _ _ _ us hl => match us, hl with | [_, _, _, _, _], _ => rfl), ⟨a_House_edit, i_House_edit, k_House_edit⟩⟩, f_House_drop := f_House_drop, d_House_drop := (PySem.W.fnOf "drop" "House.drop" (defArgs s_House_drop) (defBody s_House_drop) (defScope s_House_drop) .none kV_House_drop dc_House_drop pm_House_drop an_House_drop cd_House_drop ct_House_drop), t_House_drop := ⟨fun_mk (st := s_House_drop) l_House_drop c_House_drop k_House_drop, (fun_mk (st := s_House_drop) l_House_drop c_House_drop k_House_drop).binds (ps := ["self", "file"]) (fun _ _ _ _ _ _ us hl => match us, hl with | [_, _], _ => rfl), ⟨a_House_drop, i_House_drop, k_House_drop⟩⟩, f_House_text := f_House_text, d_House_text := (PySem.W.fnOf "text" "House.text" (defArgs s_House_text) (defBody s_House_text) (defScope s_House_text) .none kV_House_text dc_House_text pm_House_text an_House_text cd_House_text ct_House_text), t_House_text := ⟨fun_mk (st := s_House_text) l_House_text c_House_text k_House_text, (fun_mk (st := s_House_text) l_House_text c_House_text k_House_text).binds (ps := ["self", "file"]) (fun _ _ _ _ _ _ us hl => match us, hl with | [_, _], _ => rfl), ⟨a_House_text, i_House_text, k_House_text⟩⟩, f_House_all_files := f_House_all_files, d_House_all_files := (PySem.W.fnOf "all_files" "House.all_files" (defArgs s_House_all_files) (defBody s_House_all_files) (defScope s_House_all_files) .none kV_House_all_files dc_House_all_files pm_House_all_files an_House_all_files cd_House_all_files ct_House_all_files), t_House_all_files := ⟨fun_mk (st := s_House_all_files) l_House_all_files c_House_all_files k_House_all_files, (fun_mk (st := s_House_all_files) l_House_all_files c_House_all_files k_House_all_files).binds (ps := ["self"]) (fun _ _ _ _ _ _ us hl => match us, hl with | [_], _ => rfl), ⟨a_House_all_files, i_House_all_files, k_House_all_files⟩⟩, f_House_make := f_House_make, d_House_make := (PySem.W.fnOf "make" "House.make" (defArgs s_House_make) (defBody s_House_make) (defScope s_House_make) .none kV_House_make dc_House_make pm_House_make an_House_make cd_House_make ct_House_make), t_House_make := ⟨fun_mk (st := s_House_make) l_House_make c_House_make k_House_make, (fun_mk (st := s_House_make) l_House_make c_House_make k_House_make).binds (ps := ["self"]) (fun _ _ _ _ _ _ us hl => match us, hl with | [_], _ => rfl), ⟨a_House_make, i_House_make, k_House_make⟩⟩, f_House_faces := f_House_faces, d_House_faces := (PySem.W.fnOf "faces" "House.faces" (defArgs s_House_faces) (defBody s_House_faces) (defScope s_House_faces) .none kV_House_faces dc_House_faces pm_House_faces an_House_faces cd_House_faces ct_House_faces), t_House_faces := ⟨fun_mk (st := s_House_faces) l_House_faces c_House_faces k_House_faces, (fun_mk (st := s_House_faces) l_House_faces c_House_faces k_House_faces).binds (ps := ["self"]) (fun _ _ _ _ _ _ us hl => match us, hl with | [_], _ => rfl), ⟨a_House_faces, i_House_faces, k_House_faces⟩⟩, f_House_image := f_House_image, d_House_image := (PySem.W.fnOf "image" "House.image" (defArgs s_House_image) (defBody s_House_image) (defScope s_House_image) .none kV_House_image dc_House_image pm_House_image an_House_image cd_House_image ct_House_image), t_House_image := ⟨fun_mk (st := s_House_image) l_House_image c_House_image k_House_image, (fun_mk (st := s_House_image) l_House_image c_House_image k_House_image).binds (ps := ["self"]) (fun _ _ _ _ _ _ us hl => match us, hl with | [_], _ => rfl), ⟨a_House_image, i_House_image, k_House_image⟩⟩, f_House_need_made := f_House_need_made, d_House_need_made := (PySem.W.fnOf "need_made" "House.need_made" (defArgs s_House_need_made) (defBody s_House_need_made) (defScope s_House_need_made) .none kV_House_need_made dc_House_need_made pm_House_need_made an_House_need_made cd_House_need_made ct_House_need_made), t_House_need_made := ⟨fun_mk (st := s_House_need_made) l_House_need_made c_House_need_made k_House_need_made, (fun_mk (st := s_House_need_made) l_House_need_made c_House_need_made k_House_need_made).binds (ps := ["self"]) (fun _ _ _ _ _ _ us hl => match us, hl with | [_], _ => rfl), ⟨a_House_need_made, i_House_need_made, k_House_need_made⟩⟩, f__law_dice := f__law_dice, d__law_dice := (PySem.W.fnOf "_law_dice" "_law_dice" (defArgs s__law_dice) (defBody s__law_dice) (defScope s__law_dice) .none kV__law_dice dc__law_dice pm__law_dice an__law_dice cd__law_dice ct__law_dice), t__law_dice := ⟨fun_mk (st := s__law_dice) l__law_dice c__law_dice k__law_dice, (fun_mk (st := s__law_dice) l__law_dice c__law_dice k__law_dice).binds (ps := ["_law_script"]) (fun _ _ _ _ _ _ us hl => match us, hl with | [_], _ => rfl), PySem.W.mg_of X G a__law_dice⟩, f__law_next := f__law_next, d__law_next := (PySem.W.fnOf "_law_next" "_law_next" (defArgs s__law_next) (defBody s__law_next) (defScope s__law_next) .none kV__law_next dc__law_next pm__law_next an__law_next cd__law_next ct__law_next), t__law_next := ⟨fun_mk (st := s__law_next) l__law_next c__law_next k__law_next, (fun_mk (st := s__law_next) l__law_next c__law_next k__law_next).binds (ps := ["_law_dice_here", "_law_many"]) (fun _ _ _ _ _ _ us hl => match us, hl with | [_, _], _ => rfl), PySem.W.mg_of X G a__law_next⟩, f__law_like := f__law_like, d__law_like := (PySem.W.fnOf "_law_like" "_law_like" (defArgs s__law_like) (defBody s__law_like) (defScope s__law_like) .none kV__law_like dc__law_like pm__law_like an__law_like cd__law_like ct__law_like), t__law_like := ⟨fun_mk (st := s__law_like) l__law_like c__law_like k__law_like, (fun_mk (st := s__law_like) l__law_like c__law_like k__law_like).binds (ps := ["_law_found", "_law_due"]) (fun _ _ _ _ _ _ us hl => match us, hl with | [_, _], _ => rfl), PySem.W.mg_of X G a__law_like⟩, f__law_pick := f__law_pick, d__law_pick := (PySem.W.fnOf "_law_pick" "_law_pick" (defArgs s__law_pick) (defBody s__law_pick) (defScope s__law_pick) .none kV__law_pick dc__law_pick pm__law_pick an__law_pick cd__law_pick ct__law_pick), t__law_pick := ⟨fun_mk (st := s__law_pick) l__law_pick c__law_pick k__law_pick, (fun_mk (st := s__law_pick) l__law_pick c__law_pick k__law_pick).binds (ps := ["_law_d", "_law_some"]) (fun _ _ _ _ _ _ us hl => match us, hl with | [_, _], _ => rfl), PySem.W.mg_of X G a__law_pick⟩, f__law_told := f__law_told, d__law_told := (PySem.W.fnOf "_law_told" "_law_told" (defArgs s__law_told) (defBody s__law_told) (defScope s__law_told) .none kV__law_told dc__law_told pm__law_told an__law_told cd__law_told ct__law_told), t__law_told := ⟨fun_mk (st := s__law_told) l__law_told c__law_told k__law_told, (fun_mk (st := s__law_told) l__law_told c__law_told k__law_told).binds (ps := ["_law_work"]) (fun _ _ _ _ _ _ us hl => match us, hl with | [_], _ => rfl), PySem.W.mg_of X G a__law_told⟩, co__law_edited := co__law_edited, c_tb__law_edited := tb__law_edited, hc__law_edited := rfl, f__law_edited := f__law_edited, d__law_edited := (PySem.W.fnOf "_law_edited" "_law_edited" (defArgs s__law_edited) (defBody s__law_edited) (defScope s__law_edited) .none kV__law_edited dc__law_edited pm__law_edited an__law_edited (.ref co__law_edited) ct__law_edited), t__law_edited := ⟨fun_mk (st := s__law_edited) l__law_edited c__law_edited k__law_edited, (fun_mk (st := s__law_edited) l__law_edited c__law_edited k__law_edited).binds (ps := ["_law_house", "_law_texts", "_law_file", "_law_row", "_law_many", "_law_more"]) (fun _ _ _ _ _ _ us hl => match us, hl with | [_, _, _, _, _, _], _ => rfl), PySem.W.mg_of X G a__law_edited⟩, co_law := co_law, c_tb_law := tb_law, hc_law := rfl, f_law := fa, d_law := (PySem.W.fnOf "law" "law" (defArgs s_law) (defBody s_law) (defScope s_law) .none kV_law dc_law pm_law an_law (.ref co_law) ct_law), t_law := ⟨fun_mk (st := s_law) l_law c_law k_law, (fun_mk (st := s_law) l_law c_law k_law).binds (ps := ["_law_script"]) (fun _ _ _ _ _ _ us hl => match us, hl with | [_], _ => rfl), PySem.W.mg_of X G a_law⟩, n_len := PySem.W.mg_none_of X G n_len, n_list := PySem.W.mg_none_of X G n_list, n_sorted := PySem.W.mg_none_of X G n_sorted, n_int := PySem.W.mg_none_of X G n_int, n_isinstance := PySem.W.mg_none_of X G n_isinstance, n_tuple := PySem.W.mg_none_of X G n_tuple, n_bool := PySem.W.mg_none_of X G n_bool, n_str := PySem.W.mg_none_of X G n_str, n_range := PySem.W.mg_none_of X G n_range, z_LONG := z_LONG, m_LONG := PySem.W.mg_of X G m_LONG, z_LETTERS := z_LETTERS, m_LETTERS := PySem.W.mg_of X G m_LETTERS, z_MOST_ROWS := z_MOST_ROWS, m_MOST_ROWS := PySem.W.mg_of X G m_MOST_ROWS, z_MOST_FILES := z_MOST_FILES, m_MOST_FILES := PySem.W.mg_of X G m_MOST_FILES } : Tx K w mg) TB TB2⟩
end W1
set_option Elab.async false
set_option linter.all false
set_option maxRecDepth 100000
set_option maxHeartbeats 4000000
set_option pp.maxSteps 60
open PySem PySem.W PyProof.Rows
set_option maxRecDepth 100000 in
set_option maxHeartbeats 0 in
theorem PySem.Challenge.cw_wholetongue_k19_files_laid_and_edited_holds : PySem.Challenge.rw_wholetongue_k19_files_laid_and_edited.Holds := by
  w_on; o_law; k_head; (case hw => w_witness2)
  k_fill
  refine DL.walkT2 "_law_edited" "law" (k := 31) (l := PySem.Challenge.rw_wholetongue_k19_files_laid_and_edited) (by decide) rfl rfl (by decide +kernel) (by decide +kernel) (fun w h Y => by first | exact PySem.W.kIn_of Y | exact PySem.W.km_in_of Y) ?F
  case F =>
    intro w mg fa h KX G hmg
    refine' W1.all_mk KX G hmg ?cm_House ?pg_House ?hd_House ?po_House ?sa_House ?na_House_texts ?na_House_made_of ?na_House_shown ?na_House_laid ?cm_NoFile ?xp_NoFile ?kC_NoFile ?eC_NoFile ?tC_NoFile ?iC_NoFile ?sC_NoFile ?cm_BadRows ?xp_BadRows ?kC_BadRows ?eC_BadRows ?tC_BadRows ?iC_BadRows ?sC_BadRows ?cm_BadHouse ?xp_BadHouse ?kC_BadHouse ?eC_BadHouse ?tC_BadHouse ?iC_BadHouse ?sC_BadHouse ?cm_Fault ?cm_WholeError ?cm_NotMade ?hgx_BadHouse ?hkx_BadHouse ?hsx_BadHouse ?hdx_BadHouse ?hax_BadHouse ?hnx_BadHouse ?htx_BadHouse ?hmx_BadHouse ?hgx_BadRows ?hkx_BadRows ?hsx_BadRows ?hdx_BadRows ?hax_BadRows ?hnx_BadRows ?htx_BadRows ?hmx_BadRows ?hgx_NoFile ?hkx_NoFile ?hsx_NoFile ?hdx_NoFile ?hax_NoFile ?hnx_NoFile ?htx_NoFile ?hmx_NoFile ?x0_BadHouse ?x0_BadRows ?x0_NoFile ?x1_BadHouse ?x1_BadRows ?x1_NoFile ?ki_BadHouse_BadHouse ?ki_BadHouse_BadRows ?ki_BadHouse_NoFile ?ki_BadHouse_NotMade ?ki_BadRows_BadHouse ?ki_BadRows_BadRows ?ki_BadRows_NoFile ?ki_BadRows_NotMade ?ki_NoFile_BadHouse ?ki_NoFile_BadRows ?ki_NoFile_NoFile ?ki_NoFile_NotMade ?a__wall ?l__wall ?c__wall ?k__wall ?a_is_name ?l_is_name ?c_is_name ?k_is_name ?a_is_text ?l_is_text ?c_is_text ?k_is_text ?a_House___init__ ?l_House___init__ ?c_House___init__ ?k_House___init__ ?i_House___init__ ?mk_House___init__ ?kc_House___init__ ?a_House_need ?l_House_need ?c_House_need ?k_House_need ?i_House_need ?a_House_lay ?l_House_lay ?c_House_lay ?k_House_lay ?i_House_lay ?a_House_edit ?l_House_edit ?c_House_edit ?k_House_edit ?i_House_edit ?a_House_drop ?l_House_drop ?c_House_drop ?k_House_drop ?i_House_drop ?a_House_text ?l_House_text ?c_House_text ?k_House_text ?i_House_text ?a_House_all_files ?l_House_all_files ?c_House_all_files ?k_House_all_files ?i_House_all_files ?a_House_make ?l_House_make ?c_House_make ?k_House_make ?i_House_make ?a_House_faces ?l_House_faces ?c_House_faces ?k_House_faces ?i_House_faces ?a_House_image ?l_House_image ?c_House_image ?k_House_image ?i_House_image ?a_House_need_made ?l_House_need_made ?c_House_need_made ?k_House_need_made ?i_House_need_made ?a__law_dice ?l__law_dice ?c__law_dice ?k__law_dice ?a__law_next ?l__law_next ?c__law_next ?k__law_next ?a__law_like ?l__law_like ?c__law_like ?k__law_like ?a__law_pick ?l__law_pick ?c__law_pick ?k__law_pick ?a__law_told ?l__law_told ?c__law_told ?k__law_told ?a__law_edited ?l__law_edited ?c__law_edited ?k__law_edited ?lc__law_edited ?lt__law_edited ?ln__law_edited ?a_law ?l_law ?c_law ?k_law ?lc_law ?lt_law ?ln_law ?n_len ?n_list ?n_sorted ?n_int ?n_isinstance ?n_tuple ?n_bool ?n_str ?n_range ?m_LONG ?m_LETTERS ?m_MOST_ROWS ?m_MOST_FILES ?ne_tb
    (case cm_House => k_is)
    (case pg_House => k_is)
    (case hd_House => k_is)
    (case po_House => k_is)
    (case sa_House => k_is)
    (case na_House_texts => k_is)
    (case na_House_made_of => k_is)
    (case na_House_shown => k_is)
    (case na_House_laid => k_is)
    (case cm_NoFile => k_is)
    (case xp_NoFile => first | k_exc | rfl | kernel_rfl | k_is)
    (case kC_NoFile => k_is)
    (case eC_NoFile => k_is)
    (case tC_NoFile => k_is)
    (case iC_NoFile => k_is)
    (case sC_NoFile => first | rfl | k_is)
    (case cm_BadRows => k_is)
    (case xp_BadRows => first | k_exc | rfl | kernel_rfl | k_is)
    (case kC_BadRows => k_is)
    (case eC_BadRows => k_is)
    (case tC_BadRows => k_is)
    (case iC_BadRows => k_is)
    (case sC_BadRows => first | rfl | k_is)
    (case cm_BadHouse => k_is)
    (case xp_BadHouse => first | k_exc | rfl | kernel_rfl | k_is)
    (case kC_BadHouse => k_is)
    (case eC_BadHouse => k_is)
    (case tC_BadHouse => k_is)
    (case iC_BadHouse => k_is)
    (case sC_BadHouse => first | rfl | k_is)
    (case cm_Fault => k_is)
    (case cm_WholeError => k_is)
    (case cm_NotMade => k_is)
    (case hgx_BadHouse => k_is)
    (case hkx_BadHouse => k_is)
    (case hsx_BadHouse => k_is)
    (case hdx_BadHouse => k_is)
    (case hax_BadHouse => k_is)
    (case hnx_BadHouse => k_is)
    (case htx_BadHouse => k_is)
    (case hmx_BadHouse => k_is)
    (case hgx_BadRows => k_is)
    (case hkx_BadRows => k_is)
    (case hsx_BadRows => k_is)
    (case hdx_BadRows => k_is)
    (case hax_BadRows => k_is)
    (case hnx_BadRows => k_is)
    (case htx_BadRows => k_is)
    (case hmx_BadRows => k_is)
    (case hgx_NoFile => k_is)
    (case hkx_NoFile => k_is)
    (case hsx_NoFile => k_is)
    (case hdx_NoFile => k_is)
    (case hax_NoFile => k_is)
    (case hnx_NoFile => k_is)
    (case htx_NoFile => k_is)
    (case hmx_NoFile => k_is)
    (case x0_BadHouse => first | rfl | k_is | kernel_rfl | decide +kernel)
    (case x0_BadRows => first | rfl | k_is | kernel_rfl | decide +kernel)
    (case x0_NoFile => first | rfl | k_is | kernel_rfl | decide +kernel)
    (case x1_BadHouse => first | rfl | k_is | kernel_rfl | decide +kernel)
    (case x1_BadRows => first | rfl | k_is | kernel_rfl | decide +kernel)
    (case x1_NoFile => first | rfl | k_is | kernel_rfl | decide +kernel)
    (case ki_BadHouse_BadHouse => first | rfl | k_is | kernel_rfl | decide +kernel)
    (case ki_BadHouse_BadRows => first | rfl | k_is | kernel_rfl | decide +kernel)
    (case ki_BadHouse_NoFile => first | rfl | k_is | kernel_rfl | decide +kernel)
    (case ki_BadHouse_NotMade => first | rfl | k_is | kernel_rfl | decide +kernel)
    (case ki_BadRows_BadHouse => first | rfl | k_is | kernel_rfl | decide +kernel)
    (case ki_BadRows_BadRows => first | rfl | k_is | kernel_rfl | decide +kernel)
    (case ki_BadRows_NoFile => first | rfl | k_is | kernel_rfl | decide +kernel)
    (case ki_BadRows_NotMade => first | rfl | k_is | kernel_rfl | decide +kernel)
    (case ki_NoFile_BadHouse => first | rfl | k_is | kernel_rfl | decide +kernel)
    (case ki_NoFile_BadRows => first | rfl | k_is | kernel_rfl | decide +kernel)
    (case ki_NoFile_NoFile => first | rfl | k_is | kernel_rfl | decide +kernel)
    (case ki_NoFile_NotMade => first | rfl | k_is | kernel_rfl | decide +kernel)
    (case a__wall => k_is)
    (case l__wall => k_is)
    (case c__wall => k_is)
    (case k__wall => k_is)
    (case a_is_name => k_is)
    (case l_is_name => k_is)
    (case c_is_name => k_is)
    (case k_is_name => k_is)
    (case a_is_text => k_is)
    (case l_is_text => k_is)
    (case c_is_text => k_is)
    (case k_is_text => k_is)
    (case a_House___init__ => k_is)
    (case l_House___init__ => k_is)
    (case c_House___init__ => k_is)
    (case k_House___init__ => k_is)
    (case i_House___init__ => k_is)
    (case mk_House___init__ => k_is)
    (case kc_House___init__ => k_is)
    (case a_House_need => k_is)
    (case l_House_need => k_is)
    (case c_House_need => k_is)
    (case k_House_need => k_is)
    (case i_House_need => k_is)
    (case a_House_lay => k_is)
    (case l_House_lay => k_is)
    (case c_House_lay => k_is)
    (case k_House_lay => k_is)
    (case i_House_lay => k_is)
    (case a_House_edit => k_is)
    (case l_House_edit => k_is)
    (case c_House_edit => k_is)
    (case k_House_edit => k_is)
    (case i_House_edit => k_is)
    (case a_House_drop => k_is)
    (case l_House_drop => k_is)
    (case c_House_drop => k_is)
    (case k_House_drop => k_is)
    (case i_House_drop => k_is)
    (case a_House_text => k_is)
    (case l_House_text => k_is)
    (case c_House_text => k_is)
    (case k_House_text => k_is)
    (case i_House_text => k_is)
    (case a_House_all_files => k_is)
    (case l_House_all_files => k_is)
    (case c_House_all_files => k_is)
    (case k_House_all_files => k_is)
    (case i_House_all_files => k_is)
    (case a_House_make => k_is)
    (case l_House_make => k_is)
    (case c_House_make => k_is)
    (case k_House_make => k_is)
    (case i_House_make => k_is)
    (case a_House_faces => k_is)
    (case l_House_faces => k_is)
    (case c_House_faces => k_is)
    (case k_House_faces => k_is)
    (case i_House_faces => k_is)
    (case a_House_image => k_is)
    (case l_House_image => k_is)
    (case c_House_image => k_is)
    (case k_House_image => k_is)
    (case i_House_image => k_is)
    (case a_House_need_made => k_is)
    (case l_House_need_made => k_is)
    (case c_House_need_made => k_is)
    (case k_House_need_made => k_is)
    (case i_House_need_made => k_is)
    (case a__law_dice => k_is)
    (case l__law_dice => k_is)
    (case c__law_dice => k_is)
    (case k__law_dice => k_is)
    (case a__law_next => k_is)
    (case l__law_next => k_is)
    (case c__law_next => k_is)
    (case k__law_next => k_is)
    (case a__law_like => k_is)
    (case l__law_like => k_is)
    (case c__law_like => k_is)
    (case k__law_like => k_is)
    (case a__law_pick => k_is)
    (case l__law_pick => k_is)
    (case c__law_pick => k_is)
    (case k__law_pick => k_is)
    (case a__law_told => k_is)
    (case l__law_told => k_is)
    (case c__law_told => k_is)
    (case k__law_told => k_is)
    (case a__law_edited => k_is)
    (case l__law_edited => k_is)
    (case c__law_edited => k_is)
    (case k__law_edited => k_is)
    (case lc__law_edited => k_is)
    (case lt__law_edited => exact rfl)
    (case ln__law_edited => first | exact rfl | kernel_rfl)
    (case a_law => k_is)
    (case l_law => k_is)
    (case c_law => k_is)
    (case k_law => k_is)
    (case lc_law => k_is)
    (case lt_law => exact rfl)
    (case ln_law => first | exact rfl | kernel_rfl)
    (case n_len => k_is)
    (case n_list => k_is)
    (case n_sorted => k_is)
    (case n_int => k_is)
    (case n_isinstance => k_is)
    (case n_tuple => k_is)
    (case n_bool => k_is)
    (case n_str => k_is)
    (case n_range => k_is)
    (case m_LONG => k_is)
    (case m_LETTERS => k_is)
    (case m_MOST_ROWS => k_is)
    (case m_MOST_FILES => k_is)
    (case ne_tb => decide)
