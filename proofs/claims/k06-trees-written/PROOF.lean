import PyProof.Rows.All
import Wide.All
import OpenK.AllK
import Wide.FinOn
import HandS.ForMost
import HandS.TupAny
import HandS.More
import HandS.IsInst
import HandS.TryOnly
import HandS.WordsExc
import HandS.Style
import PySem.Challenge.RW_wholetongue_k06_trees_written_one_way
set_option Elab.async false
set_option linter.all false
set_option maxRecDepth 100000
/-! DBase: values as pure data over a frozen part of the abstract heap, and cells that are owned. Readings without addresses for data. -/
namespace DL
open PySem PySem.Spec PyProof.Rows L2

/-- data -/
inductive DV where
  | non | bl (b : Bool) | int (i : Int) | str (x : Str)
  | tup (xs : List DV) | lst (xs : List DV) | slst (xs : List DV) | stup (xs : List DV)
  | dK (kvs : List (Key × DV)) | dT (kvs : List (List Key × DV))
  | ref (a : Addr) | ty (n : String)

def Sub (F F' : Hp) : Prop := ∀ a o, F a = some o → F' a = some o
theorem Sub.refl (F : Hp) : Sub F F := fun _ _ h => h
theorem Sub.trans {F G H : Hp} (a : Sub F G) (b : Sub G H) : Sub F H := fun x o h => b x o (a x o h)
theorem Sub.upd {F : Hp} {p : Addr} {o : HO} (h : F p = none) : Sub F (upd F p o) := fun a u e => by
  rw [upd_ne (fun z => by subst z; rw [h] at e; cases e)]; exact e

theorem SqL.sub {K : PySem.W.Frag} {F F' : Hp} {a : Addr} {xs : List V} (s : Sub F F') (h : SqL K F a xs) : SqL K F' a xs := by
  rcases h with (h | ⟨o, h⟩) | h
  · exact .inl (.inl (s _ _ h))
  · exact .inl (.inr ⟨o, s _ _ h⟩)
  · exact .inr h
theorem SqT.sub {K : PySem.W.Frag} {F F' : Hp} {a : Addr} {xs : List V} (s : Sub F F') (h : SqT K F a xs) : SqT K F' a xs := by
  rcases h with (h | ⟨o, h⟩) | h
  · exact .inl (.inl (s _ _ h))
  · exact .inl (.inr ⟨o, s _ _ h⟩)
  · exact .inr h

mutual
inductive Rep (K : PySem.W.Frag) (F : Hp) : V → DV → Prop
  | non : Rep K F .non .non
  | bl (b : Bool) : Rep K F (.bl b) (.bl b)
  | int (i : Int) : Rep K F (.int i) (.int i)
  | str (x : Str) : Rep K F (.str x) (.str x)
  | ref (a : Addr) : Rep K F (.ref a) (.ref a)
  | ty (n : String) : Rep K F (.ty n) (.ty n)
  | tup {a : Addr} {vs : List V} {ds : List DV} : F a = some (.tup vs) → Reps K F vs ds → Rep K F (.ref a) (.tup ds)
  | stup {a : Addr} {vs : List V} {ds : List DV} : SqT K F a vs → Reps K F vs ds → Rep K F (.ref a) (.stup ds)
  | lst {a : Addr} {vs : List V} {ds : List DV} : F a = some (.lst vs) → Reps K F vs ds → Rep K F (.ref a) (.lst ds)
  | slst {a : Addr} {vs : List V} {ds : List DV} : SqL K F a vs → Reps K F vs ds → Rep K F (.ref a) (.slst ds)
  | dK {a : Addr} {kvs : List (Key × V)} {es : List (Key × DV)} : F a = some (.dK kvs) → RepK K F kvs es → Rep K F (.ref a) (.dK es)
  | dT {a : Addr} {kvs : List (List Key × V)} {es : List (List Key × DV)} : F a = some (.dT kvs) → RepT K F kvs es → Rep K F (.ref a) (.dT es)
inductive Reps (K : PySem.W.Frag) (F : Hp) : List V → List DV → Prop
  | nil : Reps K F [] []
  | cons {v : V} {d : DV} {vs : List V} {ds : List DV} : Rep K F v d → Reps K F vs ds → Reps K F (v :: vs) (d :: ds)
inductive RepK (K : PySem.W.Frag) (F : Hp) : List (Key × V) → List (Key × DV) → Prop
  | nil : RepK K F [] []
  | cons {k : Key} {v : V} {d : DV} {vs : List (Key × V)} {ds : List (Key × DV)} : Rep K F v d → RepK K F vs ds → RepK K F ((k, v) :: vs) ((k, d) :: ds)
inductive RepT (K : PySem.W.Frag) (F : Hp) : List (List Key × V) → List (List Key × DV) → Prop
  | nil : RepT K F [] []
  | cons {k : List Key} {v : V} {d : DV} {vs : List (List Key × V)} {ds : List (List Key × DV)} : Rep K F v d → RepT K F vs ds → RepT K F ((k, v) :: vs) ((k, d) :: ds)
end

section
variable {K : PySem.W.Frag} {F F' : Hp}
mutual
theorem Rep.mono (s : Sub F F') : ∀ {v : V} {d : DV}, Rep K F v d → Rep K F' v d
  | _, _, .non => .non
  | _, _, .bl b => .bl b
  | _, _, .int b => .int b
  | _, _, .str b => .str b
  | _, _, .ref b => .ref b
  | _, _, .ty b => .ty b
  | _, _, .tup h r => .tup (s _ _ h) (Reps.mono s r)
  | _, _, .stup h r => .stup (SqT.sub s h) (Reps.mono s r)
  | _, _, .lst h r => .lst (s _ _ h) (Reps.mono s r)
  | _, _, .slst h r => .slst (SqL.sub s h) (Reps.mono s r)
  | _, _, .dK h r => .dK (s _ _ h) (RepK.mono s r)
  | _, _, .dT h r => .dT (s _ _ h) (RepT.mono s r)
theorem Reps.mono (s : Sub F F') : ∀ {v : List V} {d : List DV}, Reps K F v d → Reps K F' v d
  | _, _, .nil => .nil
  | _, _, .cons h r => .cons (Rep.mono s h) (Reps.mono s r)
theorem RepK.mono (s : Sub F F') : ∀ {v : List (Key × V)} {d : List (Key × DV)}, RepK K F v d → RepK K F' v d
  | _, _, .nil => .nil
  | _, _, .cons h r => .cons (Rep.mono s h) (RepK.mono s r)
theorem RepT.mono (s : Sub F F') : ∀ {v : List (List Key × V)} {d : List (List Key × DV)}, RepT K F v d → RepT K F' v d
  | _, _, .nil => .nil
  | _, _, .cons h r => .cons (Rep.mono s h) (RepT.mono s r)
end
theorem Reps.len : ∀ {vs : List V} {ds : List DV}, Reps K F vs ds → vs.length = ds.length
  | _, _, .nil => rfl
  | _, _, .cons _ r => by simp [Reps.len r]
theorem Reps.get : ∀ {vs : List V} {ds : List DV} {i : Nat} {d : DV}, Reps K F vs ds → ds[i]? = some d → ∃ v, vs[i]? = some v ∧ Rep K F v d
  | _, _, _, _, .nil, e => by simp at e
  | _, _, 0, _, .cons h _, e => by simp at e; subst e; exact ⟨_, rfl, h⟩
  | _, _, i + 1, d, .cons _ r, e => by
    obtain ⟨v, h1, h2⟩ := Reps.get (i := i) (d := d) r (by simpa using e)
    exact ⟨v, by simpa using h1, h2⟩
theorem Reps.get' : ∀ {vs : List V} {ds : List DV} {i : Nat} {v : V}, Reps K F vs ds → vs[i]? = some v → ∃ d, ds[i]? = some d ∧ Rep K F v d
  | _, _, _, _, .nil, e => by simp at e
  | _, _, 0, _, .cons h _, e => by simp at e; subst e; exact ⟨_, rfl, h⟩
  | _, _, i + 1, d, .cons _ r, e => by
    obtain ⟨v, h1, h2⟩ := Reps.get' (i := i) (v := d) r (by simpa using e)
    exact ⟨v, by simpa using h1, h2⟩
theorem Reps.append : ∀ {vs ws : List V} {ds es : List DV}, Reps K F vs ds → Reps K F ws es → Reps K F (vs ++ ws) (ds ++ es)
  | _, _, _, _, .nil, h => h
  | _, _, _, _, .cons h r, q => .cons h (Reps.append r q)
theorem Reps.take : ∀ {vs : List V} {ds : List DV} (n : Nat), Reps K F vs ds → Reps K F (vs.take n) (ds.take n)
  | _, _, 0, _ => .nil
  | _, _, _ + 1, .nil => .nil
  | _, _, n + 1, .cons h r => .cons h (Reps.take n r)
theorem Reps.drop : ∀ {vs : List V} {ds : List DV} (n : Nat), Reps K F vs ds → Reps K F (vs.drop n) (ds.drop n)
  | _, _, 0, r => r
  | _, _, _ + 1, .nil => .nil
  | _, _, n + 1, .cons _ r => Reps.drop n r
theorem Reps.set {v : V} {d : DV} (h : Rep K F v d) : ∀ {vs : List V} {ds : List DV} (i : Nat), Reps K F vs ds → Reps K F (vs.set i v) (ds.set i d)
  | _, _, _, .nil => .nil
  | _, _, 0, .cons _ r => .cons h r
  | _, _, i + 1, .cons q r => .cons q (Reps.set h i r)
theorem Reps.strs : ∀ {vs : List V} {ys : List Str}, Reps K F vs (ys.map DV.str) → vs = ys.map V.str
  | _, [], .nil => rfl
  | _, y :: ys, .cons h r => by cases h; simp [Reps.strs r]
theorem Reps.of_strs : ∀ (ys : List Str), Reps K F (ys.map V.str) (ys.map DV.str)
  | [] => .nil
  | y :: ys => .cons (.str y) (Reps.of_strs ys)
theorem Reps.ints : ∀ {vs : List V} {ys : List Int}, Reps K F vs (ys.map DV.int) → vs = ys.map V.int
  | _, [], .nil => rfl
  | _, y :: ys, .cons h r => by cases h; simp [Reps.ints r]
theorem Reps.of_ints : ∀ (ys : List Int), Reps K F (ys.map V.int) (ys.map DV.int)
  | [] => .nil
  | y :: ys => .cons (.int y) (Reps.of_ints ys)
theorem Reps.flatten {vs : List V} {ds : List DV} (r : Reps K F vs ds) : ∀ n : Nat, Reps K F (List.replicate n vs).flatten (List.replicate n ds).flatten
  | 0 => .nil
  | n + 1 => by
    rw [List.replicate_succ, List.replicate_succ, List.flatten_cons, List.flatten_cons]
    exact r.append (Reps.flatten r n)
end

/-- what is owned at an address -/
inductive Cell where
  | lst (xs : List DV) | dK (kvs : List (Key × DV)) | dT (kvs : List (List Key × DV)) | ins (C : Addr) (fs : List (Str × DV))
abbrev Own := Addr → Option Cell
def oset (O : Own) (a : Addr) (c : Cell) : Own := fun b => if b = a then some c else O b
def odel (O : Own) (a : Addr) : Own := fun b => if b = a then none else O b
theorem oset_same {O : Own} {a : Addr} {c : Cell} : oset O a c a = some c := by unfold oset; rw [if_pos rfl]
theorem oset_ne {O : Own} {a b : Addr} {c : Cell} (h : b ≠ a) : oset O a c b = O b := by unfold oset; rw [if_neg h]
theorem oset_oset {O : Own} {a : Addr} {c c' : Cell} : oset (oset O a c) a c' = oset O a c' := by
  funext b; unfold oset; split <;> rfl
theorem oset_none {O : Own} {a b : Addr} {c : Cell} : oset O a c b = none ↔ b ≠ a ∧ O b = none := by
  unfold oset; split
  · simp_all
  · simp_all
theorem one_ne {O : Own} {a p : Addr} {c : Cell} (h : O p = none) (e : O a = some c) : a ≠ p := by
  intro z; subst z; rw [h] at e; cases e
theorem odel_same {O : Own} {a : Addr} : odel O a a = none := by unfold odel; rw [if_pos rfl]
theorem odel_ne {O : Own} {a b : Addr} (h : b ≠ a) : odel O a b = O b := by unfold odel; rw [if_neg h]
theorem odel_oset {O : Own} {a : Addr} {c : Cell} (h : O a = none) : odel (oset O a c) a = O := by
  funext b; unfold oset odel
  by_cases e : b = a
  · subst e; simp [h]
  · simp [e]
theorem oset_comm {O : Own} {a b : Addr} {c c' : Cell} (h : a ≠ b) : oset (oset O a c) b c' = oset (oset O b c') a c := by
  funext x; unfold oset
  by_cases e : x = b
  · subst e; simp [Ne.symm h]
  · simp [e]
theorem odel_oset_ne {O : Own} {a b : Addr} {c : Cell} (h : a ≠ b) : odel (oset O a c) b = oset (odel O b) a c := by
  funext x; unfold oset odel
  by_cases e : x = b
  · subst e; simp [Ne.symm h]
  · simp [e]

def RepF (K : PySem.W.Frag) (F : Hp) : List (Str × V) → List (Str × DV) → Prop := Paired fun p q => p.1 = q.1 ∧ Rep K F p.2 q.2
theorem RepF.mono {K : PySem.W.Frag} {F F' : Hp} (s : Sub F F') : ∀ {x : List (Str × V)} {y : List (Str × DV)}, RepF K F x y → RepF K F' x y
  | _, _, .nil => .nil
  | _, _, .cons h r => .cons ⟨h.1, h.2.mono s⟩ (RepF.mono s r)

def CellAt (K : PySem.W.Frag) (F H : Hp) (a : Addr) : Cell → Prop
  | .lst ds => ∃ vs, H a = some (.lst vs) ∧ Reps K F vs ds
  | .dK es => ∃ kvs, H a = some (.dK kvs) ∧ RepK K F kvs es
  | .dT es => ∃ kvs, H a = some (.dT kvs) ∧ RepT K F kvs es
  | .ins C fs => ∃ dx fvs, H a = some (.ins C dx fvs) ∧ RepF K F fvs fs
theorem CellAt.mono {K : PySem.W.Frag} {F F' H H' : Hp} {a : Addr} {c : Cell} (s : Sub F F') (e : H' a = H a) (h : CellAt K F H a c) : CellAt K F' H' a c := by
  cases c with
  | lst ds => obtain ⟨vs, h1, h2⟩ := h; exact ⟨vs, e.trans h1, h2.mono s⟩
  | dK ds => obtain ⟨vs, h1, h2⟩ := h; exact ⟨vs, e.trans h1, h2.mono s⟩
  | dT ds => obtain ⟨vs, h1, h2⟩ := h; exact ⟨vs, e.trans h1, h2.mono s⟩
  | ins C ds => obtain ⟨dx, vs, h1, h2⟩ := h; exact ⟨dx, vs, e.trans h1, h2.mono s⟩
theorem CellAt.some {K : PySem.W.Frag} {F H : Hp} {a : Addr} {c : Cell} (h : CellAt K F H a c) : ∃ o, H a = some o := by
  cases c with
  | lst ds => obtain ⟨vs, h1, h2⟩ := h; exact ⟨_, h1⟩
  | dK ds => obtain ⟨vs, h1, h2⟩ := h; exact ⟨_, h1⟩
  | dT ds => obtain ⟨vs, h1, h2⟩ := h; exact ⟨_, h1⟩
  | ins C ds => obtain ⟨dx, vs, h1, h2⟩ := h; exact ⟨_, h1⟩

/-- a dict may be locked -/
def Lk : HO → Prop
  | .dK _ => True
  | .dT _ => True
  | _ => False
/-- H is made of the frozen F and the owned O -/
structure RS (K : PySem.W.Frag) (F : Hp) (O : Own) (H : Hp) : Prop where
  fro : ∀ a o, F a = some o → H a = some o ∨ (Lk o ∧ ∃ ob, H a = some (.frz ob o))
  own : ∀ a c, O a = some c → F a = none ∧ CellAt K F H a c
section
variable {K : PySem.W.Frag} {F F' H H' : Hp} {O : Own} {a p : Addr} {c : Cell}
theorem RS.plain (r : RS K F O H) {o : HO} (e : F a = some o) (n : ¬ Lk o) : H a = some o := by
  rcases r.fro a o e with h | ⟨h, _⟩
  · exact h
  · exact absurd h n
theorem RS.lst (r : RS K F O H) {vs : List V} (e : F a = some (.lst vs)) : H a = some (.lst vs) := r.plain e (fun z => z)
theorem RS.tup (r : RS K F O H) {vs : List V} (e : F a = some (.tup vs)) : H a = some (.tup vs) := r.plain e (fun z => z)
theorem RS.sqT (r : RS K F O H) {vs : List V} (h : SqT K F a vs) : SqT K H a vs := by
  rcases h with (h | ⟨o, h⟩) | h
  · exact .inl (.inl (r.plain h (fun z => z)))
  · exact .inl (.inr ⟨o, r.plain h (fun z => z)⟩)
  · exact .inr h
theorem RS.sqL (r : RS K F O H) {vs : List V} (h : SqL K F a vs) : SqL K H a vs := by
  rcases h with (h | ⟨o, h⟩) | h
  · exact .inl (.inl (r.plain h (fun z => z)))
  · exact .inl (.inr ⟨o, r.plain h (fun z => z)⟩)
  · exact .inr h
theorem RS.free (r : RS K F O H) (h : H p = none) : F p = none ∧ O p = none := by
  constructor
  · cases e : F p with
    | none => rfl
    | some o =>
      rcases r.fro p o e with z | ⟨_, ob, z⟩ <;> rw [h] at z <;> cases z
  · cases e : O p with
    | none => rfl
    | some c =>
      obtain ⟨o, z⟩ := (r.own p c e).2.some
      rw [h] at z; cases z
/-- from one state to another: the frozen part grows, what is not owned stays -/
structure Stp (K : PySem.W.Frag) (F : Hp) (O : Own) (H F' : Hp) (O' : Own) (H' : Hp) : Prop where
  sub : Sub F F'
  rs : RS K F' O' H'
  keep : ∀ a o, H a = some o → O a = none → H' a = some o ∧ O' a = none
  nof : ∀ a o, H a = some o → O a = none → F a = none → F' a = none
theorem Stp.refl (r : RS K F O H) : Stp K F O H F O H := ⟨Sub.refl _, r, fun _ _ h1 h2 => ⟨h1, h2⟩, fun _ _ _ _ h => h⟩
theorem Stp.trans {F1 H1 F2 H2 : Hp} {O1 O2 : Own} (s : Stp K F O H F1 O1 H1) (t : Stp K F1 O1 H1 F2 O2 H2) : Stp K F O H F2 O2 H2 :=
  ⟨s.sub.trans t.sub, t.rs, fun a o h1 h2 => let ⟨h3, h4⟩ := s.keep a o h1 h2; t.keep a o h3 h4, fun a o h1 h2 h3 => let ⟨h4, h5⟩ := s.keep a o h1 h2; t.nof a o h4 h5 (s.nof a o h1 h2 h3)⟩
/-- a new frozen thing -/
theorem RS.new (r : RS K F O H) (h : H p = none) (o : HO) : Stp K F O H (upd F p o) O (upd H p o) := by
  obtain ⟨hf, ho⟩ := r.free h
  refine ⟨Sub.upd hf, ⟨fun b u e => ?_, fun b c e => ?_⟩, fun b u h1 h2 => ⟨by rw [upd_ne (fun z => by subst z; rw [h] at h1; cases h1)]; exact h1, h2⟩, fun b u h1 h2 h3 => by rw [upd_ne (fun z => by subst z; rw [h] at h1; cases h1)]; exact h3⟩
  · by_cases hb : b = p
    · subst hb; rw [upd_same] at e ⊢; exact .inl e
    · rw [upd_ne hb] at e; rw [upd_ne hb]; exact r.fro b u e
  · have hb : b ≠ p := one_ne ho e
    obtain ⟨h1, h2⟩ := r.own b c e
    exact ⟨by rw [upd_ne hb]; exact h1, h2.mono (Sub.upd hf) (upd_ne hb)⟩
/-- a new owned thing -/
theorem RS.newO (r : RS K F O H) (h : H p = none) {o : HO} (hc : CellAt K F (upd H p o) p c) : Stp K F O H F (oset O p c) (upd H p o) := by
  obtain ⟨hf, ho⟩ := r.free h
  refine ⟨Sub.refl _, ⟨fun b u e => ?_, fun b c e => ?_⟩, fun b u h1 h2 => ?_, fun _ _ _ _ h => h⟩
  · have hb : b ≠ p := fun z => by subst z; rw [hf] at e; cases e
    rw [upd_ne hb]; exact r.fro b u e
  · by_cases hb : b = p
    · subst hb; rw [oset_same] at e; cases e; exact ⟨hf, hc⟩
    · rw [oset_ne hb] at e
      obtain ⟨h1, h2⟩ := r.own b c e
      exact ⟨h1, h2.mono (Sub.refl _) (upd_ne hb)⟩
  · have hb : b ≠ p := fun z => by subst z; rw [h] at h1; cases h1
    exact ⟨by rw [upd_ne hb]; exact h1, by rw [oset_ne hb]; exact h2⟩
/-- an owned thing is written -/
theorem RS.write (r : RS K F O H) {c' : Cell} (h : O p = some c') {o : HO} (hc : CellAt K F (upd H p o) p c) : Stp K F O H F (oset O p c) (upd H p o) := by
  obtain ⟨hf, _⟩ := r.own p c' h
  refine ⟨Sub.refl _, ⟨fun b u e => ?_, fun b c e => ?_⟩, fun b u h1 h2 => ?_, fun _ _ _ _ h => h⟩
  · have hb : b ≠ p := fun z => by subst z; rw [hf] at e; cases e
    rw [upd_ne hb]; exact r.fro b u e
  · by_cases hb : b = p
    · subst hb; rw [oset_same] at e; cases e; exact ⟨hf, hc⟩
    · rw [oset_ne hb] at e
      obtain ⟨h1, h2⟩ := r.own b c e
      exact ⟨h1, h2.mono (Sub.refl _) (upd_ne hb)⟩
  · have hb : b ≠ p := fun z => by subst z; rw [h] at h2; cases h2
    exact ⟨by rw [upd_ne hb]; exact h1, by rw [oset_ne hb]; exact h2⟩
theorem RS.freeze (r : RS K F O H) {o : HO} (h : O p = some c) (h1 : H p = some o) : Stp K F O H (upd F p o) (odel O p) H := by
  obtain ⟨hf, _⟩ := r.own p _ h
  refine ⟨Sub.upd hf, ⟨fun b u e => ?_, fun b c e => ?_⟩, fun b u h1 h2 => ⟨h1, ?_⟩, fun b u h1 h2 h3 => by rw [upd_ne (fun z => by subst z; rw [h] at h2; cases h2)]; exact h3⟩
  · by_cases hb : b = p
    · subst hb; rw [upd_same] at e; cases e; exact .inl h1
    · rw [upd_ne hb] at e; exact r.fro b u e
  · have hb : b ≠ p := fun z => by subst z; rw [odel_same] at e; cases e
    rw [odel_ne hb] at e
    obtain ⟨h3, h4⟩ := r.own b c e
    exact ⟨by rw [upd_ne hb]; exact h3, h4.mono (Sub.upd hf) rfl⟩
  · by_cases hb : b = p
    · subst hb; exact odel_same
    · rw [odel_ne hb]; exact h2
/-- what is owned is let go: it is frozen from here on -/
theorem RS.freezeL (r : RS K F O H) {ds : List DV} (h : O p = some (.lst ds)) : ∃ F', Stp K F O H F' (odel O p) H ∧ Rep K F' (.ref p) (.lst ds) := by
  obtain ⟨hf, vs, h1, h2⟩ := r.own p _ h
  exact ⟨_, r.freeze h h1, .lst upd_same (h2.mono (Sub.upd hf))⟩
theorem RS.freezeK (r : RS K F O H) {ds : List (Key × DV)} (h : O p = some (.dK ds)) : ∃ F', Stp K F O H F' (odel O p) H ∧ Rep K F' (.ref p) (.dK ds) := by
  obtain ⟨hf, vs, h1, h2⟩ := r.own p _ h
  exact ⟨_, r.freeze h h1, .dK upd_same (h2.mono (Sub.upd hf))⟩
theorem RS.freezeT (r : RS K F O H) {ds : List (List Key × DV)} (h : O p = some (.dT ds)) : ∃ F', Stp K F O H F' (odel O p) H ∧ Rep K F' (.ref p) (.dT ds) := by
  obtain ⟨hf, vs, h1, h2⟩ := r.own p _ h
  exact ⟨_, r.freeze h h1, .dT upd_same (h2.mono (Sub.upd hf))⟩
end

/-! ### the readings -/
abbrev DSt := List (Option DV)
abbrev DVK := DV → Own → Prop
abbrev DTE := DSt → Own → DVK → Prop
abbrev DTT := DSt → Own → (Bool → Own → Prop) → Prop
abbrev DTA := DSt → Own → (List DV → Own → Prop) → Prop
structure DEnds where
  nx : DSt → Own → Prop
  rt : DVK
  bk : DSt → Own → Prop := fun _ _ => False
  ct : DSt → Own → Prop := fun _ _ => False
abbrev DTS := DEnds → DSt → Own → Prop
abbrev DTG := DV → DSt → Own → (DSt → Own → Prop) → Prop
abbrev DTI := DSt → Own → (List DV → Own → Prop) → Prop

def SR (K : PySem.W.Frag) (F : Hp) (σ : L2.St) (S : DSt) : Prop := σ.length = S.length ∧ ∀ (i : Nat) (d : DV), S[i]? = some (some d) → ∃ v, σ[i]? = some (some v) ∧ Rep K F v d
theorem SR.mono {K : PySem.W.Frag} {F F' : Hp} {σ : L2.St} {S : DSt} (s : Sub F F') (h : SR K F σ S) : SR K F' σ S :=
  ⟨h.1, fun i d e => let ⟨v, h1, h2⟩ := h.2 i d e; ⟨v, h1, h2.mono s⟩⟩
theorem SR.set {K : PySem.W.Frag} {F : Hp} {σ : L2.St} {S : DSt} {v : V} {d : DV} (h : SR K F σ S) (i : Nat) (r : Rep K F v d) : SR K F (σ.set i (some v)) (S.set i (some d)) := by
  refine ⟨by simp [h.1], fun j e q => ?_⟩
  by_cases hj : j = i
  · subst hj
    have hl : j < S.length := by
      have := (List.getElem?_eq_some_iff.mp q).1
      simpa using this
    rw [List.getElem?_set_self hl] at q
    cases q
    exact ⟨v, List.getElem?_set_self (by rw [h.1]; exact hl), r⟩
  · rw [List.getElem?_set_ne (Ne.symm hj)] at q ⊢
    exact h.2 j e q
theorem SR.start {K : PySem.W.Frag} {F : Hp} {vs : List V} {ds : List DV} (N : List Str) (r : Reps K F vs ds) : SR K F (start N vs) (ds.map some ++ List.replicate (N.length - ds.length) none) := by
  refine ⟨by simp [L2.start, r.len], fun i d e => ?_⟩
  by_cases hi : i < ds.length
  · rw [List.getElem?_append_left (by simpa using hi)] at e
    rw [List.getElem?_map] at e
    cases q : ds[i]? with
    | none => rw [q] at e; cases e
    | some d' =>
      rw [q] at e
      cases e
      obtain ⟨v, h1, h2⟩ := r.get q
      refine ⟨v, ?_, h2⟩
      unfold L2.start
      rw [List.getElem?_append_left (by simpa [r.len] using hi), List.getElem?_map, h1]
      rfl
  · rw [List.getElem?_append_right (by simpa using hi), List.getElem?_replicate] at e
    split at e <;> cases e

def FinE (K : PySem.W.Frag) (F : Hp) (O : Own) (H : Hp) (Q : DVK) (VQ : VK) : Prop := ∀ d O', Q d O' → ∀ v H' F', Stp K F O H F' O' H' → Rep K F' v d → VQ v H'
def FinT (K : PySem.W.Frag) (F : Hp) (O : Own) (H : Hp) (Q : Bool → Own → Prop) (VQ : Bool → Hp → Prop) : Prop := ∀ b O', Q b O' → ∀ H' F', Stp K F O H F' O' H' → VQ b H'
def FinA (K : PySem.W.Frag) (F : Hp) (O : Own) (H : Hp) (Q : List DV → Own → Prop) (VQ : List V → Hp → Prop) : Prop := ∀ ds O', Q ds O' → ∀ vs H' F', Stp K F O H F' O' H' → Reps K F' vs ds → VQ vs H'
def FinS (K : PySem.W.Frag) (F : Hp) (O : Own) (H : Hp) (Q : DSt → Own → Prop) (VQ : L2.St → Hp → Prop) : Prop := ∀ S O', Q S O' → ∀ σ' H' F', Stp K F O H F' O' H' → SR K F' σ' S → VQ σ' H'
structure FinD (K : PySem.W.Frag) (F : Hp) (O : Own) (H : Hp) (D : DEnds) (VD : Ends) : Prop where
  nx : FinS K F O H D.nx VD.nx
  rt : FinE K F O H D.rt VD.rt
  bk : FinS K F O H D.bk VD.bk
  ct : FinS K F O H D.ct VD.ct
section
variable {K : PySem.W.Frag} {F F' H H' : Hp} {O O' : Own}
theorem FinE.step {Q : DVK} {VQ : VK} (h : FinE K F O H Q VQ) (s : Stp K F O H F' O' H') : FinE K F' O' H' Q VQ := fun d O q v H G s' p => h d O q v H G (s.trans s') p
theorem FinT.step {Q : Bool → Own → Prop} {VQ : Bool → Hp → Prop} (h : FinT K F O H Q VQ) (s : Stp K F O H F' O' H') : FinT K F' O' H' Q VQ := fun d O q H G s' => h d O q H G (s.trans s')
theorem FinA.step {Q : List DV → Own → Prop} {VQ : List V → Hp → Prop} (h : FinA K F O H Q VQ) (s : Stp K F O H F' O' H') : FinA K F' O' H' Q VQ := fun d O q v H G s' p => h d O q v H G (s.trans s') p
theorem FinS.step {Q : DSt → Own → Prop} {VQ : L2.St → Hp → Prop} (h : FinS K F O H Q VQ) (s : Stp K F O H F' O' H') : FinS K F' O' H' Q VQ := fun d O q v H G s' p => h d O q v H G (s.trans s') p
theorem FinD.step {D : DEnds} {VD : Ends} (h : FinD K F O H D VD) (s : Stp K F O H F' O' H') : FinD K F' O' H' D VD := ⟨h.nx.step s, h.rt.step s, h.bk.step s, h.ct.step s⟩
end

def liftE (K : PySem.W.Frag) (t : DTE) : TE := fun σ H VQ => ∃ F O S Q, RS K F O H ∧ SR K F σ S ∧ t S O Q ∧ FinE K F O H Q VQ
def liftT (K : PySem.W.Frag) (t : DTT) : TT := fun σ H VQ => ∃ F O S Q, RS K F O H ∧ SR K F σ S ∧ t S O Q ∧ FinT K F O H Q VQ
def liftA (K : PySem.W.Frag) (t : DTA) : TA := fun σ H VQ => ∃ F O S Q, RS K F O H ∧ SR K F σ S ∧ t S O Q ∧ FinA K F O H Q VQ
def liftS (K : PySem.W.Frag) (t : DTS) : TS := fun VD σ H => ∃ F O S D, RS K F O H ∧ SR K F σ S ∧ t D S O ∧ FinD K F O H D VD
def liftG (K : PySem.W.Frag) (g : DTG) : TG := fun v σ H VQ => ∃ F O S Q d, RS K F O H ∧ SR K F σ S ∧ Rep K F v d ∧ g d S O Q ∧ FinS K F O H Q VQ
/-- an iterator that yields these -/
def Yields (K : PySem.W.Frag) (F : Hp) (J : It) (ds : List DV) : Prop := ∀ (i : Nat) (O : Own) (H F2 : Hp), Sub F F2 → RS K F2 O H →
  (∀ d, ds[i]? = some d → J.go i H ∧ ∀ x H', J.yld i H x H' → ∃ F3, Stp K F2 O H F3 O H' ∧ Rep K F3 x d) ∧ (ds.length ≤ i → J.stop i H)
def liftI (K : PySem.W.Frag) (t : DTI) : TI := fun σ H R => ∃ F O S Q, RS K F O H ∧ SR K F σ S ∧ t S O Q ∧ ∀ ds O', Q ds O' → ∀ J H' F', Stp K F O H F' O' H' → Yields K F' J ds → R J H'

structure DE (X : Cx) (e : Expr) (t : DTE) : Prop where
  pe : PE X e (liftE X.K t)
structure DT (X : Cx) (e : Expr) (t : DTT) : Prop where
  pt : PT X e (liftT X.K t)
structure DW (X : Cx) (e : Expr) (t : DTT) : Prop where
  pw : PW X e (liftT X.K t)
structure DA (X : Cx) (es : List Expr) (t : DTA) : Prop where
  pa : PA X es (liftA X.K t)
structure DS (X : Cx) (st : Stmt) (t : DTS) : Prop where
  ps : PS X st (liftS X.K t)
structure DSs (X : Cx) (st : List Stmt) (t : DTS) : Prop where
  ps : PSs X st (liftS X.K t)
structure DG (X : Cx) (e : Expr) (t : DTG) : Prop where
  pg : PG X e (liftG X.K t)
structure DI (X : Cx) (tg it : Expr) (t : DTI) : Prop where
  pi : PI X tg it (liftI X.K t)

theorem PE_imp {X : Cx} {e : Expr} {t t' : TE} (h : PE X e t) (i : ∀ σ H Q, t' σ H Q → t σ H Q) : PE X e t' := ⟨fun pins s σ H Q I q => h.run pins s σ H Q I (i σ H Q q)⟩
theorem PT_imp {X : Cx} {e : Expr} {t t' : TT} (h : PT X e t) (i : ∀ σ H Q, t' σ H Q → t σ H Q) : PT X e t' := ⟨fun pins s σ H Q I q => h.run pins s σ H Q I (i σ H Q q)⟩
theorem PW_imp {X : Cx} {e : Expr} {t t' : TT} (h : PW X e t) (i : ∀ σ H Q, t' σ H Q → t σ H Q) : PW X e t' := ⟨fun w pins s σ H Q I q => h.run w pins s σ H Q I (i σ H Q q)⟩
theorem PA_imp {X : Cx} {e : List Expr} {t t' : TA} (h : PA X e t) (i : ∀ σ H Q, t' σ H Q → t σ H Q) : PA X e t' := ⟨fun p pins s σ H Q I q => h.run p pins s σ H Q I (i σ H Q q)⟩
theorem PS_imp {X : Cx} {e : Stmt} {t t' : TS} (h : PS X e t) (i : ∀ D σ H, t' D σ H → t D σ H) : PS X e t' := ⟨fun pins s σ H D I q => h.run pins s σ H D I (i D σ H q)⟩
theorem PSs_imp {X : Cx} {e : List Stmt} {t t' : TS} (h : PSs X e t) (i : ∀ D σ H, t' D σ H → t D σ H) : PSs X e t' := ⟨fun pins s σ H D I q => h.run pins s σ H D I (i D σ H q)⟩
theorem PG_imp {X : Cx} {e : Expr} {t t' : TG} (h : PG X e t) (i : ∀ v σ H Q, t' v σ H Q → t v σ H Q) : PG X e t' := ⟨fun pins s σ H v u Q I r q => h.run pins s σ H v u Q I r (i v σ H Q q)⟩
theorem PI_imp {X : Cx} {a b : Expr} {t t' : TI} (h : PI X a b t) (i : ∀ σ H Q, t' σ H Q → t σ H Q) : PI X a b t' := ⟨fun pins s σ H Q I q => h.run pins s σ H Q I (i σ H Q q)⟩
end DL

set_option Elab.async false
set_option linter.all false
set_option maxRecDepth 100000
/-! DCore: the rules over data. -/
namespace DL
open PySem PySem.Spec PyProof.Rows L2

/-! ### slots, names, constants -/
def slot : DSt → Nat → Option DV
  | [], _ => none
  | x :: _, 0 => x
  | _ :: r, n + 1 => slot r n
theorem slot_get : ∀ {S : DSt} {i : Nat} {d : DV}, slot S i = some d → S[i]? = some (some d)
  | [], _, _, h => by cases h
  | x :: _, 0, _, h => by simp only [slot] at h; simp [h]
  | _ :: r, n + 1, d, h => by simpa using slot_get (S := r) (i := n) h
def onSome {α : Type} : Option α → (α → Prop) → Prop
  | some x, K => K x
  | none, _ => False
theorem onSome_ex {α : Type} {o : Option α} {K : α → Prop} (h : onSome o K) : ∃ x, o = some x ∧ K x := by
  cases o with
  | none => exact h.elim
  | some x => exact ⟨x, rfl, h⟩
theorem onSome_of {α : Type} {o : Option α} {K : α → Prop} {x : α} (e : o = some x) (h : K x) : onSome o K := by rw [e]; exact h
def dVar (i : Nat) (S : DSt) (O : Own) (Q : DVK) : Prop := onSome (slot S i) fun d => Q d O
def dC (d : DV) (u0_ : DSt) (O : Own) (Q : DVK) : Prop := Q d O
section
variable {X : Cx}
theorem dv (i : Nat) {x : Str} {pos : Pos} (hN : X.N[i]? = some x := by rfl) (hv : Vis X.env.scope x := by first | exact Or.inl rfl | exact Or.inr (Or.inl rfl) | exact Or.inr (Or.inr rfl)) (hd : (x == ("__debug__" : Str)) = false := by decide)
    (hcd : (x == ("__classdict__" : Str)) = false := by decide) : DE X (.Name x pos) (dVar i) := by
  refine ⟨PE_imp (pv i hN hv hd hcd) ?_⟩
  rintro σ H VQ ⟨F, O, S, Q, rs, sr, h, fin⟩
  obtain ⟨d, e, h⟩ := onSome_ex h
  obtain ⟨v, h1, h2⟩ := sr.2 i d (slot_get e)
  exact ⟨v, h1, fin d O h v H F (.refl rs) h2⟩
theorem DE.const {e : Expr} {v : V} {d : DV} (h : PE X e (tC v)) (r : ∀ F, Rep X.K F v d) : DE X e (dC d) :=
  ⟨PE_imp h fun σ H VQ ⟨F, O, S, Q, rs, sr, q, fin⟩ => fin d O q v H F (.refl rs) (r F)⟩
theorem de_int {i j pos} : DE X (.Constant (.int i) j pos) (dC (.int i)) := .const pe_int fun _ => .int i
theorem de_bl {i j pos} : DE X (.Constant (.bool i) j pos) (dC (.bl i)) := .const pe_bl fun _ => .bl i
theorem de_non {j pos} : DE X (.Constant .none j pos) (dC .non) := .const pe_non fun _ => .non
theorem de_str {i j pos} : DE X (.Constant (.str i) j pos) (dC (.str i)) := .const pe_str fun _ => .str i
/-- a module's constant -/
theorem de_glob {x : Str} {v : V} {d : DV} {u : Value} {pos : Pos} (hg : Gl X x) (hm : X.mg x = some u) (r : RelV v u) (rd : ∀ F, Rep X.K F v d) (hd : (x == ("__debug__" : Str)) = false := by decide) : DE X (.Name x pos) (dC d) := .const (pe_glob hg hm r hd) rd
theorem de_globS {x z : Str} {t : Tok} {pos : Pos} (hm : X.mg x = some (.str z t)) (hg : Gl X x := by rfl) (hd : (x == ("__debug__" : Str)) = false := by decide) : DE X (.Name x pos) (dC (.str z)) := de_glob (v := .str z) hg hm ⟨_, rfl⟩ (fun _ => .str z) hd
theorem de_globI {x : Str} {z : Int} {t : Tok} {pos : Pos} (hm : X.mg x = some (.int z t)) (hg : Gl X x := by rfl) (hd : (x == ("__debug__" : Str)) = false := by decide) : DE X (.Name x pos) (dC (.int z)) := de_glob (v := .int z) hg hm ⟨_, rfl⟩ (fun _ => .int z) hd
theorem de_globR {x : Str} {a : Addr} {d : DV} {pos : Pos} (hm : X.mg x = some (.ref a)) (r : ∀ F, Rep X.K F (.ref a) d) (hg : Gl X x := by rfl) (hd : (x == ("__debug__" : Str)) = false := by decide) : DE X (.Name x pos) (dC d) := de_glob (v := .ref a) hg hm rfl r hd
theorem de_blt {x : Str} {n : String} {pos : Pos} (hm : X.mg x = none) (hv : bootBuiltins x = some (.type n)) (hg : Gl X x := by rfl) (hn : x ≠ "__name__" := by decide) (hd : (x == ("__debug__" : Str)) = false := by decide) : DE X (.Name x pos) (dC (.ty n)) :=
  .const (pe_bltn (v := .ty n) hg hm hv rfl hn hd) fun _ => .ty n
end

/-! ### two-place operations -/
abbrev DR2 := DV → DV → Own → DVK → Prop
def dOp (r : DR2) (ta tb : DTE) (S : DSt) (O : Own) (Q : DVK) : Prop := ta S O fun x O1 => tb S O1 fun y O2 => r x y O2 Q
def liftR2 (K : PySem.W.Frag) (r : DR2) : R2 := fun x y H VQ => ∃ F O dx dy Q, RS K F O H ∧ Rep K F x dx ∧ Rep K F y dy ∧ r dx dy O Q ∧ FinE K F O H Q VQ
theorem OpR_imp {X : Cx} {f : Value → Value → Sem Value} {r r' : R2} (h : OpR X f r) (i : ∀ x y H Q, r' x y H Q → r x y H Q) : OpR X f r' :=
  fun pins s σ H x y v u Q I rx ry q => h pins s σ H x y v u Q I rx ry (i x y H Q q)
structure OpD (X : Cx) (f : Value → Value → Sem Value) (r : DR2) : Prop where
  op : OpR X f (liftR2 X.K r)
theorem liftOp {K : PySem.W.Frag} {r : DR2} {ta tb : DTE} {σ : L2.St} {H : Hp} {VQ : VK} (h : liftE K (dOp r ta tb) σ H VQ) : tOp (liftR2 K r) (liftE K ta) (liftE K tb) σ H VQ := by
  obtain ⟨F, O, S, Q, rs, sr, h, fin⟩ := h
  exact ⟨F, O, S, _, rs, sr, h, fun dx O1 h1 x H1 F1 s1 rx => ⟨F1, O1, S, _, s1.rs, sr.mono s1.sub, h1, fun dy O2 h2 y H2 F2 s2 ry => ⟨F2, O2, dx, dy, Q, s2.rs, rx.mono s2.sub, ry, h2, fin.step (s1.trans s2)⟩⟩⟩
section
variable {X : Cx} {a b : Expr} {ta tb : DTE} {pos : Pos} {r : DR2}
theorem de_op {op : Operator} (ho : OpD X (binaryOp op) r) (ha : DE X a ta) (hb : DE X b tb) : DE X (.BinOp a op b pos) (dOp r ta tb) :=
  ⟨PE_imp (pe_op ho.op ha.pe hb.pe) fun _ _ _ h => liftOp h⟩
theorem de_cmp {op : CmpOp} (ho : OpD X (compareOp op) r) (ha : DE X a ta) (hb : DE X b tb) (hm : behindInMarks op b = false := by first | exact nomark _ | rfl | with_unfolding_all rfl) : DE X (.Compare a [op] [b] pos) (dOp r ta tb) :=
  ⟨PE_imp (pe_cmpR ho.op ha.pe hb.pe hm) fun _ _ _ h => liftOp h⟩
/-- a bool as a test -/
def kBl (Q : Bool → Own → Prop) : DV → Own → Prop
  | .bl b, O => Q b O
  | _, _ => False
def dTest (t : DTE) (S : DSt) (O : Own) (Q : Bool → Own → Prop) : Prop := t S O (kBl Q)
theorem liftTest {K : PySem.W.Frag} {t : DTE} {σ : L2.St} {H : Hp} {VQ : Bool → Hp → Prop} (h : liftT K (dTest t) σ H VQ) : tTest (liftE K t) σ H VQ := by
  obtain ⟨F, O, S, Q, rs, sr, h, fin⟩ := h
  refine ⟨F, O, S, _, rs, sr, h, fun d O1 h1 v H1 F1 s1 rv => ?_⟩
  cases rv with
  | bl b => exact ⟨b, rfl, fin b O1 h1 H1 F1 s1⟩
  | _ => exact h1.elim
theorem dt_cmp {op : CmpOp} (ho : OpD X (compareOp op) r) (ha : DE X a ta) (hb : DE X b tb) (hm : behindInMarks op b = false := by first | exact nomark _ | rfl | with_unfolding_all rfl) : DT X (.Compare a [op] [b] pos) (dTest (dOp r ta tb)) := by
  refine ⟨PT_imp (pt_cmpR ho.op ha.pe hb.pe hm) fun σ H VQ h => ?_⟩
  obtain ⟨F, O, S, Q, rs, sr, h, fin⟩ := h
  refine liftOp ⟨F, O, S, _, rs, sr, h, fun d O1 h1 v H1 F1 s1 rv => ?_⟩
  cases rv with
  | bl b => exact ⟨b, rfl, fin b O1 h1 H1 F1 s1⟩
  | _ => exact h1.elim
end

/-- a list that is read: frozen or owned -/
def lstOf (O : Own) : DV → Option (List DV)
  | .lst xs => some xs
  | .ref a => match O a with
    | some (.lst xs) => some xs
    | _ => none
  | _ => none
/-- any sequence -/
def seqOf (O : Own) : DV → Option (List DV)
  | .lst xs => some xs
  | .slst xs => some xs
  | .tup xs => some xs
  | .stup xs => some xs
  | .ref a => match O a with
    | some (.lst xs) => some xs
    | _ => none
  | _ => none
/-- an owned cell that is a list .. -/
def onL : Option Cell → (List DV → Prop) → Prop
  | some (.lst xs), K => K xs
  | _, _ => False
def lstQ (O : Own) : DV → (List DV → Prop) → Prop
  | .lst xs, K => K xs
  | .ref a, K => onL (O a) K
  | _, _ => False
def seqQ (O : Own) : DV → (List DV → Prop) → Prop
  | .lst xs, K => K xs
  | .slst xs, K => K xs
  | .tup xs, K => K xs
  | .stup xs, K => K xs
  | .ref a, K => onL (O a) K
  | _, _ => False
theorem onL_ex {c : Option Cell} {K : List DV → Prop} (h : onL c K) : ∃ xs, c = some (.lst xs) ∧ K xs := by
  unfold onL at h
  split at h
  · exact ⟨_, rfl, h⟩
  · exact h.elim
theorem lstQ_ex {O : Own} {d : DV} {K : List DV → Prop} (h : lstQ O d K) : ∃ xs, lstOf O d = some xs ∧ K xs := by
  unfold lstQ at h
  split at h
  · exact ⟨_, rfl, h⟩
  · rename_i a
    obtain ⟨xs, e, h⟩ := onL_ex h
    exact ⟨xs, by simp [lstOf, e], h⟩
  · exact h.elim
theorem seqQ_ex {O : Own} {d : DV} {K : List DV → Prop} (h : seqQ O d K) : ∃ xs, seqOf O d = some xs ∧ K xs := by
  unfold seqQ at h
  split at h
  · exact ⟨_, rfl, h⟩
  · exact ⟨_, rfl, h⟩
  · exact ⟨_, rfl, h⟩
  · exact ⟨_, rfl, h⟩
  · rename_i a
    obtain ⟨xs, e, h⟩ := onL_ex h
    exact ⟨xs, by simp [seqOf, e], h⟩
  · exact h.elim
theorem lstOf_at {K : PySem.W.Frag} {F H : Hp} {O : Own} {v : V} {d : DV} {xs : List DV} (rs : RS K F O H) (r : Rep K F v d) (h : lstOf O d = some xs) : ∃ a vs, v = .ref a ∧ H a = some (.lst vs) ∧ Reps K F vs xs := by
  cases r with
  | lst e r => cases h; exact ⟨_, _, rfl, rs.lst e, r⟩
  | ref a =>
    simp only [lstOf] at h
    split at h
    · rename_i ys e
      cases h
      obtain ⟨_, vs, h1, h2⟩ := rs.own a _ e
      exact ⟨a, vs, rfl, h1, h2⟩
    · cases h
  | _ => cases h
theorem seqOf_at {K : PySem.W.Frag} {F H : Hp} {O : Own} {v : V} {d : DV} {xs : List DV} (rs : RS K F O H) (r : Rep K F v d) (h : seqOf O d = some xs) : ∃ a vs, v = .ref a ∧ (SqL K H a vs ∨ SqT K H a vs) ∧ Reps K F vs xs := by
  cases r with
  | lst e r => cases h; exact ⟨_, _, rfl, .inl (SqL.of (rs.lst e)), r⟩
  | slst e r => cases h; exact ⟨_, _, rfl, .inl (rs.sqL e), r⟩
  | tup e r => cases h; exact ⟨_, _, rfl, .inr (SqT.of (rs.tup e)), r⟩
  | stup e r => cases h; exact ⟨_, _, rfl, .inr (rs.sqT e), r⟩
  | ref a =>
    simp only [seqOf] at h
    split at h
    · rename_i ys e
      cases h
      obtain ⟨_, vs, h1, h2⟩ := rs.own a _ e
      exact ⟨a, vs, rfl, .inl (SqL.of h1), h2⟩
    · cases h
  | _ => cases h

/-! ### + - * // % -/
def dAdd : DV → DV → Own → DVK → Prop
  | .int i, .int j, O, Q => Q (.int (i + j)) O
  | .int i, .bl k, O, Q => Q (.int (i + b2i k)) O
  | .str a, .str b, O, Q => a.length + b.length ≤ sizeLine ∧ Q (.str (a ++ b)) O
  | .tup xs, .tup ys, O, Q => xs.length + ys.length ≤ sizeLine ∧ Q (.tup (xs ++ ys)) O
  | .lst xs, .lst ys, O, Q => xs.length + ys.length ≤ sizeLine ∧ Q (.lst (xs ++ ys)) O
  | .ref a, y, O, Q => onL (O a) fun xs => lstQ O y fun ys => xs.length + ys.length ≤ sizeLine ∧ Q (.lst (xs ++ ys)) O
  | .lst xs, .ref b, O, Q => onL (O b) fun ys => xs.length + ys.length ≤ sizeLine ∧ Q (.lst (xs ++ ys)) O
  | _, _, _, _ => False
theorem od_add {X : Cx} : OpD X (binaryOp .Add) dAdd := by
  refine ⟨OpR_imp (((op_add.or op_add_str).or (op_cat.or op_catA)).or op_add_ib) ?_⟩
  rintro x y H VQ ⟨F, O, dx, dy, Q, rs, rx, ry, h, fin⟩
  have fl : ∀ {x y : V} {dx dy : DV} {xs ys : List DV}, Rep X.K F x dx → Rep X.K F y dy → lstOf O dx = some xs → lstOf O dy = some ys → xs.length + ys.length ≤ sizeLine ∧ Q (.lst (xs ++ ys)) O →
      ((rI0 (fun i j => V.int (i + j)) x y H VQ ∨ (∃ i j, x = .str i ∧ y = .str j ∧ i.length + j.length ≤ sizeLine ∧ VQ (.str (i ++ j)) H)) ∨ (rCat x y H VQ ∨ rCatA X.K x y H VQ)) ∨ (∃ i k, x = .int i ∧ y = .bl k ∧ VQ (.int (i + b2i k)) H) := by
    intro x y dx dy xs ys rx ry e1 e2 h
    obtain ⟨a, vs, rfl, h1, r1⟩ := lstOf_at rs rx e1
    obtain ⟨b, ws, rfl, h2, r2⟩ := lstOf_at rs ry e2
    refine .inl (.inr (.inl ⟨a, b, vs, ws, rfl, rfl, h1, h2, by rw [r1.len, r2.len]; exact h.1, fun p hp => ?_⟩))
    have s := rs.new hp (.lst (vs ++ ws))
    exact fin _ _ h.2 _ _ _ s (.lst upd_same ((r1.mono s.sub).append (r2.mono s.sub)))
  unfold dAdd at h
  split at h
  · cases rx; cases ry
    exact .inl (.inl (.inl ⟨_, _, rfl, rfl, fin _ _ h _ _ F (.refl rs) (.int _)⟩))
  · cases rx; cases ry
    exact .inr ⟨_, _, rfl, rfl, fin _ _ h _ _ F (.refl rs) (.int _)⟩
  · cases rx; cases ry
    exact .inl (.inl (.inr ⟨_, _, rfl, rfl, h.1, fin _ _ h.2 _ _ F (.refl rs) (.str _)⟩))
  · rename_i xs ys
    cases rx with | @tup a vs _ e1 r1 => cases ry with | @tup b ws _ e2 r2 =>
    refine .inl (.inr (.inr ⟨a, b, vs, ws, rfl, rfl, SqT.of (rs.tup e1), SqT.of (rs.tup e2), by rw [r1.len, r2.len]; exact h.1, fun z => ?_, fun _ z => ?_, fun _ _ p hp => ?_⟩))
    · subst z; cases r1
      exact fin _ _ h.2 _ _ F (.refl rs) (.tup e2 r2)
    · subst z; cases r2
      have := h.2; rw [List.append_nil] at this
      exact fin _ _ this _ _ F (.refl rs) (.tup e1 r1)
    · have s := rs.new hp (.tup (vs ++ ws))
      exact fin _ _ h.2 _ _ _ s (.tup upd_same ((r1.mono s.sub).append (r2.mono s.sub)))
  · rename_i xs ys
    exact fl (xs := xs) (ys := ys) rx ry rfl rfl h
  · rename_i a y
    obtain ⟨xs, e1, h⟩ := onL_ex h
    obtain ⟨ys, e2, h⟩ := lstQ_ex h
    exact fl rx ry (by simp [lstOf, e1]) e2 h
  · rename_i xs b
    obtain ⟨ys, e2, h⟩ := onL_ex h
    exact fl (xs := xs) rx ry rfl (by simp [lstOf, e2]) h
  · exact h.elim
def dI2 (C : Int → Int → Prop) (g : Int → Int → DV) : DV → DV → Own → DVK → Prop
  | .int i, .int j, O, Q => C i j ∧ Q (g i j) O
  | _, _, _, _ => False
theorem od_I {X : Cx} {f : Value → Value → Sem Value} {C : Int → Int → Prop} {g : Int → Int → Int} (h : OpR X f (rI C fun i j => .int (g i j))) : OpD X f (dI2 C fun i j => .int (g i j)) := by
  refine ⟨OpR_imp h ?_⟩
  rintro x y H VQ ⟨F, O, dx, dy, Q, rs, rx, ry, h, fin⟩
  unfold dI2 at h
  split at h
  · cases rx; cases ry
    exact ⟨_, _, rfl, rfl, h.1, fin _ _ h.2 _ _ F (.refl rs) (.int _)⟩
  · exact h.elim
def dSub : DV → DV → Own → DVK → Prop
  | .int i, .int j, O, Q => Q (.int (i - j)) O
  | _, _, _, _ => False
theorem od_sub {X : Cx} : OpD X (binaryOp .Sub) dSub := by
  refine ⟨OpR_imp op_sub ?_⟩
  rintro x y H VQ ⟨F, O, dx, dy, Q, rs, rx, ry, h, fin⟩
  unfold dSub at h
  split at h
  · cases rx; cases ry
    exact ⟨_, _, rfl, rfl, fin _ _ h _ _ F (.refl rs) (.int _)⟩
  · exact h.elim
theorem od_mod {X : Cx} : OpD X (binaryOp .Mod) (dI2 (fun _ j => 0 < j) fun i j => .int (i % j)) := od_I op_mod
theorem od_fdiv {X : Cx} : OpD X (binaryOp .FloorDiv) (dI2 CDiv fun i j => .int (i / j)) := od_I op_fdiv
theorem od_pow {X : Cx} : OpD X (binaryOp .Pow) (dI2 CPow fun i j => .int (i ^ j.toNat)) := od_I op_pow
theorem od_mul {X : Cx} : OpD X (binaryOp .Mult) (dI2 CMul fun i j => .int (i * j)) := od_I op_mul

/-! ### comparisons -/
def dCmpI (p : Int → Int → Bool) : DV → DV → Own → DVK → Prop
  | .int i, .int j, O, Q => Q (.bl (p i j)) O
  | _, _, _, _ => False
theorem od_C {X : Cx} {f : Value → Value → Sem Value} {p : Int → Int → Bool} (h : OpR X f (rI0 fun i j => .bl (p i j))) : OpD X f (dCmpI p) := by
  refine ⟨OpR_imp h ?_⟩
  rintro x y H VQ ⟨F, O, dx, dy, Q, rs, rx, ry, h, fin⟩
  unfold dCmpI at h
  split at h
  · cases rx; cases ry
    exact ⟨_, _, rfl, rfl, fin _ _ h _ _ F (.refl rs) (.bl _)⟩
  · exact h.elim
theorem od_lt {X : Cx} : OpD X (compareOp .Lt) (dCmpI fun i j => decide (i < j)) := od_C op_lt
theorem od_le {X : Cx} : OpD X (compareOp .LtE) (dCmpI fun i j => decide (i ≤ j)) := od_C op_le
theorem od_gt {X : Cx} : OpD X (compareOp .Gt) (dCmpI fun i j => decide (j < i)) := od_C op_gt
theorem od_ge {X : Cx} : OpD X (compareOp .GtE) (dCmpI fun i j => decide (j ≤ i)) := od_C op_ge
mutual
def toPy : DV → Option PyData
  | .non => some .none
  | .bl b => some (.bool b)
  | .int i => some (.int i)
  | .str x => some (.str x)
  | .tup xs => match toPys xs with
    | some ps => some (.tuple ps)
    | none => none
  | .stup xs => match toPys xs with
    | some ps => some (.tuple ps)
    | none => none
  | .lst xs => match toPys xs with
    | some ps => some (.list ps)
    | none => none
  | _ => none
def toPys : List DV → Option (List PyData)
  | [] => some []
  | x :: r => match toPy x, toPys r with
    | some p, some ps => some (p :: ps)
    | _, _ => none
end
mutual
theorem dp_of {K : PySem.W.Frag} {F H : Hp} {O : Own} (rs : RS K F O H) : ∀ {v : V} {d : DV} {p : PyData}, Rep K F v d → toPy d = some p → Dp K H v p
  | _, _, _, .non, h => by cases h; exact .non
  | _, _, _, .bl b, h => by cases h; exact .bl b
  | _, _, _, .int b, h => by cases h; exact .int b
  | _, _, _, .str b, h => by cases h; exact .str b
  | _, _, _, .ref _, h => by cases h
  | _, _, _, .ty _, h => by cases h
  | _, _, _, .tup e r, h => by
    unfold toPy at h
    split at h
    · rename_i ps q; cases h; exact .tup (SqT.of (rs.tup e)) (dps_of rs r q)
    · cases h
  | _, _, _, .stup e r, h => by
    unfold toPy at h
    split at h
    · rename_i ps q; cases h; exact .tup (rs.sqT e) (dps_of rs r q)
    · cases h
  | _, _, _, .lst e r, h => by
    unfold toPy at h
    split at h
    · rename_i ps q; cases h; exact .lst (SqL.of (rs.lst e)) (dps_of rs r q)
    · cases h
  | _, _, _, .slst _ _, h => by cases h
  | _, _, _, .dK _ _, h => by cases h
  | _, _, _, .dT _ _, h => by cases h
theorem dps_of {K : PySem.W.Frag} {F H : Hp} {O : Own} (rs : RS K F O H) : ∀ {v : List V} {d : List DV} {p : List PyData}, Reps K F v d → toPys d = some p → DpAll K H v p
  | _, _, _, .nil, h => by cases h; exact .nil
  | _, _, _, .cons r q, h => by
    unfold toPys at h
    split at h
    · rename_i p ps e1 e2; cases h; exact .cons (dp_of rs r e1) (dps_of rs q e2)
    · cases h
end
/-- x == y of data at any depth -/
def dEqP (neg : Bool) (x y : DV) (O : Own) (Q : DVK) : Prop := onSome (toPy x) fun p => onSome (toPy y) fun q => SeqAt.shaped p = true ∧ SeqAt.shaped q = true ∧ Q (.bl (if neg then !PyData.eqv p q else PyData.eqv p q)) O
/-- x == y -/
def dEq (neg : Bool) : DV → DV → Own → DVK → Prop
  | .int i, .int j, O, Q => Q (.bl (if neg then !decide (i = j) else decide (i = j))) O
  | .str i, .str j, O, Q => Q (.bl (if neg then !decide (i = j) else decide (i = j))) O
  | .bl i, .bl j, O, Q => Q (.bl (if neg then !decide (i = j) else decide (i = j))) O
  | .lst xs, y, O, Q => dEqP neg (.lst xs) y O Q
  | .tup xs, y, O, Q => dEqP neg (.tup xs) y O Q
  | .stup xs, y, O, Q => dEqP neg (.stup xs) y O Q
  | .non, y, O, Q => dEqP neg .non y O Q
  | .int i, .non, O, Q => dEqP neg (.int i) .non O Q
  | .int i, .str y, O, Q => dEqP neg (.int i) (.str y) O Q
  | .int i, .tup y, O, Q => dEqP neg (.int i) (.tup y) O Q
  | .int i, .lst y, O, Q => dEqP neg (.int i) (.lst y) O Q
  | .str i, .non, O, Q => dEqP neg (.str i) .non O Q
  | .str i, .int y, O, Q => dEqP neg (.str i) (.int y) O Q
  | .str i, .tup y, O, Q => dEqP neg (.str i) (.tup y) O Q
  | .str i, .lst y, O, Q => dEqP neg (.str i) (.lst y) O Q
  | _, _, _, _ => False
end DL

set_option Elab.async false
set_option linter.all false
set_option maxRecDepth 100000
/-! DMore: the rules over data, further. -/
namespace DL
open PySem PySem.Spec PyProof.Rows L2 TL

theorem rep_bl {K : PySem.W.Frag} {F : Hp} {b c : Bool} (h : b = c) : Rep K F (.bl b) (.bl c) := h ▸ .bl b
theorem dEq_ok {X : Cx} {f : Value → Value → Sem Value} (neg : Bool) (h1 : OpR X f (if neg then rNe else rEq)) (h2 : OpR X f (if neg then rNeD X.K else rEqD X.K)) : OpD X f (dEq neg) := by
  refine ⟨OpR_imp (h1.or h2) ?_⟩
  rintro x y H VQ ⟨F, O, dx, dy, Q, rs, rx, ry, h, fin⟩
  have fp : dEqP neg dx dy O Q → ((if neg then rNe else rEq) x y H VQ ∨ (if neg then rNeD X.K else rEqD X.K) x y H VQ) := by
    intro h
    obtain ⟨p, e1, h⟩ := onSome_ex h
    obtain ⟨q, e2, h⟩ := onSome_ex h
    obtain ⟨s1, s2, h⟩ := h
    have q := fin _ _ h _ _ F (.refl rs) (.bl _)
    refine .inr ?_
    cases neg
    · exact ⟨_, _, dp_of rs rx e1, dp_of rs ry e2, s1, s2, by simpa [Bool.false_eq_true] using q⟩
    · exact ⟨_, _, dp_of rs rx e1, dp_of rs ry e2, s1, s2, by simpa using q⟩
  unfold dEq at h
  split at h
  · cases rx; cases ry
    have q := fin _ _ h _ _ F (.refl rs) (.bl _)
    refine .inl ?_
    cases neg
    · exact ⟨rfl, by simpa [Bool.false_eq_true] using q⟩
    · exact ⟨rfl, by simpa using q⟩
  · cases rx; cases ry
    have q := fin _ _ h _ _ F (.refl rs) (.bl _)
    refine .inl ?_
    cases neg
    · exact ⟨rfl, by simpa [Bool.false_eq_true] using q⟩
    · exact ⟨rfl, by simpa using q⟩
  · cases rx; cases ry
    have q := fin _ _ h _ _ F (.refl rs) (.bl _)
    refine .inl ?_
    cases neg
    · exact ⟨rfl, by simpa [Bool.false_eq_true] using q⟩
    · exact ⟨rfl, by simpa using q⟩
  all_goals first | exact fp h | exact h.elim
theorem od_eq {X : Cx} (hu : X.A.units + 64 < cLine) : OpD X (compareOp .Eq) (dEq false) := dEq_ok false op_eq (op_eqD hu)
theorem od_ne {X : Cx} (hu : X.A.units + 64 < cLine) : OpD X (compareOp .NotEq) (dEq true) := dEq_ok true op_ne (op_neD hu)
/-- is None -/
def isNon : DV → Bool
  | .non => true
  | _ => false
def dIsN (neg : Bool) : DV → DV → Own → DVK → Prop
  | x, .non, O, Q => Q (.bl (if neg then !isNon x else isNon x)) O
  | _, _, _, _ => False
theorem isN_rep {K : PySem.W.Frag} {F : Hp} {v : V} {d : DV} (r : Rep K F v d) : decide (v = .non) = isNon d := by
  cases r <;> rfl
theorem od_isN {X : Cx} : OpD X (compareOp .Is) (dIsN false) := by
  refine ⟨OpR_imp op_isN ?_⟩
  rintro x y H VQ ⟨F, O, dx, dy, Q, rs, rx, ry, h, fin⟩
  unfold dIsN at h
  split at h
  · cases ry
    refine ⟨rfl, ?_⟩
    rw [isN_rep rx]
    exact fin _ _ (by simpa using h) _ _ F (.refl rs) (.bl _)
  · exact h.elim
theorem od_notN {X : Cx} : OpD X (compareOp .IsNot) (dIsN true) := by
  refine ⟨OpR_imp op_notN ?_⟩
  rintro x y H VQ ⟨F, O, dx, dy, Q, rs, rx, ry, h, fin⟩
  unfold dIsN at h
  split at h
  · cases ry
    refine ⟨rfl, ?_⟩
    rw [isN_rep rx]
    exact fin _ _ (by simpa using h) _ _ F (.refl rs) (.bl _)
  · exact h.elim
/-! ### in -/
def flatD : DV → Bool
  | .non => true
  | .bl _ => true
  | .int _ => true
  | .str _ => true
  | _ => false
def eqF : DV → DV → Bool
  | .non, .non => true
  | .bl a, .bl b => a == b
  | .bl a, .int b => (if a then 1 else 0) == b
  | .int a, .bl b => a == (if b then 1 else 0)
  | .int a, .int b => a == b
  | .str a, .str b => a == b
  | _, _ => false
def inD (x : DV) (xs : List DV) : Bool := xs.any fun y => eqF y x
theorem flat_rep {K : PySem.W.Frag} {F : Hp} {v : V} {d : DV} (r : Rep K F v d) (f : flatD d = true) : flatV v = true := by
  cases r <;> first | rfl | cases f
theorem flat_reps {K : PySem.W.Frag} {F : Hp} : ∀ {v : List V} {d : List DV}, Reps K F v d → d.all flatD = true → v.all flatV = true
  | _, _, .nil, _ => rfl
  | _, _, .cons h r, f => by
    simp only [List.all_cons, Bool.and_eq_true] at f ⊢
    exact ⟨flat_rep h f.1, flat_reps r f.2⟩
theorem eqF_rep {K : PySem.W.Frag} {F : Hp} {v w : V} {d e : DV} (r : Rep K F v d) (q : Rep K F w e) (f : flatD d = true) (g : flatD e = true) : eqV v w = eqF d e := by
  cases r <;> first | (cases f; done) | (cases q <;> first | rfl | (cases g; done))
theorem inD_rep {K : PySem.W.Frag} {F : Hp} {w : V} {e : DV} (q : Rep K F w e) (g : flatD e = true) : ∀ {v : List V} {d : List DV}, Reps K F v d → d.all flatD = true → inV w v = inD e d
  | _, _, .nil, _ => rfl
  | _, _, .cons h r, f => by
    simp only [List.all_cons, Bool.and_eq_true] at f
    have := inD_rep q g r f.2
    unfold inV inD at *
    rw [List.any_cons, List.any_cons, this, eqF_rep h q f.1 g]
/-- x in a text, a list, a tuple -/
def dInS (neg : Bool) (z : Str) (O : Own) (Q : DVK) (c : Str) : List Nat → Prop
  | [k] => Q (.bl (if neg then !decide (k ∈ tl z) else decide (k ∈ tl z))) O
  | _ => Q (.bl (if neg then (!(!(Builtin.Str.occurrences z c 0 z.length 1).isEmpty)) else !(Builtin.Str.occurrences z c 0 z.length 1).isEmpty)) O
def dInQ (neg : Bool) (x y : DV) (O : Own) (Q : DVK) : Prop := seqQ O y fun xs => flatD x = true ∧ xs.all flatD = true ∧ Q (.bl (if neg then !inD x xs else inD x xs)) O
def dIn (neg : Bool) : DV → DV → Own → DVK → Prop
  | .str c, .str z, O, Q => dInS neg z O Q c (tl c)
  | x, .lst xs, O, Q => dInQ neg x (.lst xs) O Q
  | x, .slst xs, O, Q => dInQ neg x (.slst xs) O Q
  | x, .tup xs, O, Q => dInQ neg x (.tup xs) O Q
  | x, .stup xs, O, Q => dInQ neg x (.stup xs) O Q
  | x, .ref xs, O, Q => dInQ neg x (.ref xs) O Q
  | _, _, _, _ => False
theorem dIn_ok {X : Cx} {f : Value → Value → Sem Value} (neg : Bool) (h0 : OpR X f (fun x y H Q => ∃ (c : Nat) (z : Str), x = .str ⟨#[c]⟩ ∧ y = .str z ∧ Q (.bl (if neg then !decide (c ∈ z.cps.toList) else decide (c ∈ z.cps.toList))) H))
    (h1 : OpR X f (fun x y H Q => ∃ i j, x = .str i ∧ y = .str j ∧ Q (.bl (if neg then (!(!(Builtin.Str.occurrences j i 0 j.length 1).isEmpty)) else !(Builtin.Str.occurrences j i 0 j.length 1).isEmpty)) H))
    (h2 : OpR X f (rIn X.K neg)) : OpD X f (dIn neg) := by
  refine ⟨OpR_imp (h0.or (h1.or h2)) ?_⟩
  rintro x y H VQ ⟨F, O, dx, dy, Q, rs, rx, ry, h, fin⟩
  have fq : dInQ neg dx dy O Q → ((∃ (c : Nat) (z : Str), x = .str ⟨#[c]⟩ ∧ y = .str z ∧ VQ (.bl (if neg then !decide (c ∈ z.cps.toList) else decide (c ∈ z.cps.toList))) H) ∨
      ((∃ i j, x = .str i ∧ y = .str j ∧ VQ (.bl (if neg then (!(!(Builtin.Str.occurrences j i 0 j.length 1).isEmpty)) else !(Builtin.Str.occurrences j i 0 j.length 1).isEmpty)) H) ∨ rIn X.K neg x y H VQ)) := by
    intro h
    obtain ⟨xs, e, h⟩ := seqQ_ex h
    obtain ⟨p, vs, rfl, h1, r1⟩ := seqOf_at rs ry e
    refine .inr (.inr ⟨p, vs, rfl, h1, flat_rep rx h.1, flat_reps r1 h.2.1, ?_⟩)
    have := fin _ _ h.2.2 _ _ F (.refl rs) (.bl _)
    rw [inD_rep rx h.1 r1 h.2.1]
    cases neg <;> simpa using this
  unfold dIn at h
  split at h
  · rename_i c z
    cases rx; cases ry
    unfold dInS at h
    split at h
    · rename_i k e
      refine .inl ⟨k, z, ?_, rfl, ?_⟩
      · have : c = ⟨#[k]⟩ := ext_tl e
        rw [this]
      · exact fin _ _ h _ _ F (.refl rs) (.bl _)
    · exact .inr (.inl ⟨_, _, rfl, rfl, fin _ _ h _ _ F (.refl rs) (.bl _)⟩)
  all_goals first | exact fq h | exact h.elim
theorem od_in {X : Cx} : OpD X (compareOp .In) (dIn false) := dIn_ok false op_in_sign op_in_str op_in_seq
theorem od_notIn {X : Cx} : OpD X (compareOp .NotIn) (dIn true) := dIn_ok true op_notIn_sign op_notIn_str op_notIn_seq
/-- x in a dict of the module: text keys -/
def dInK (K : PySem.W.Frag) (d : Addr) (neg : Bool) : DV → DV → Own → DVK → Prop
  | .str z, .ref a, O, Q => a = d ∧ ∃ r, PySem.W.nsIn K d z = some r ∧ Q (.bl (if neg then !r.isSome else r.isSome)) O
  | _, _, _, _ => False
theorem od_inK {X : Cx} {d : Addr} {es : Array DictEntry} {n : Nat} (D : KDict X.K X.w d es n) : OpD X (compareOp .In) (dInK X.K d false) := by
  refine ⟨OpR_imp (op_in_kd D) ?_⟩
  rintro x y H VQ ⟨F, O, dx, dy, Q, rs, rx, ry, h, fin⟩
  unfold dInK at h
  split at h
  · cases rx; cases ry
    obtain ⟨rfl, r, h1, h2⟩ := h
    exact ⟨_, r, rfl, rfl, h1, fin _ _ h2 _ _ F (.refl rs) (.bl _)⟩
  · exact h.elim

/-! ### x[i], x[a:b] -/
def dIxQ (x : DV) (i : Int) (O : Own) (Q : DVK) : Prop := seqQ O x fun xs => onSome (atI xs i) fun d => Q d O
def dIx : DV → DV → Own → DVK → Prop
  | .str z, .int i, O, Q => z.length ≤ sizeLine ∧ onSome (atI (tl z) i) fun c => Q (.str ⟨#[c]⟩) O
  | .lst x, .int i, O, Q => dIxQ (.lst x) i O Q
  | .slst x, .int i, O, Q => dIxQ (.slst x) i O Q
  | .tup x, .int i, O, Q => dIxQ (.tup x) i O Q
  | .stup x, .int i, O, Q => dIxQ (.stup x) i O Q
  | .ref x, .int i, O, Q => dIxQ (.ref x) i O Q
  | _, _, _, _ => False
theorem atI_rep {K : PySem.W.Frag} {F : Hp} {vs : List V} {ds : List DV} {i : Int} {d : DV} (r : Reps K F vs ds) (h : atI ds i = some d) : ∃ v, atI vs i = some v ∧ Rep K F v d := by
  unfold atI at h ⊢
  rw [r.len]
  cases e : ixN ds.length i with
  | none => rw [e] at h; cases h
  | some j =>
    rw [e] at h
    exact r.get h
theorem de_ix {X : Cx} {a b : Expr} {ta tb : DTE} {pos : Pos} (ha : DE X a ta) (hb : DE X b tb) (hs : PlainIx b := by exact fun _ _ => rfl) : DE X (.Subscript a b pos) (dOp dIx ta tb) := by
  have h : IxR X (liftR2 X.K dIx) := by
    intro value slice pins s σ H x y v u VQ I rx' ry' h hs
    obtain ⟨F, O, dx, dy, Q, rs, rx, ry, h, fin⟩ := h
    refine ix_seq value slice pins s σ H x y v u VQ I rx' ry' ?_ hs
    have fq : ∀ i, dy = .int i → dIxQ dx i O Q → rIx X.K x y H VQ := by
      rintro i rfl h
      cases ry
      obtain ⟨xs, e, h⟩ := seqQ_ex h
      obtain ⟨d, e', h⟩ := onSome_ex h
      obtain ⟨p, vs, rfl, h1, r1⟩ := seqOf_at rs rx e
      obtain ⟨w, h2, h3⟩ := atI_rep r1 e'
      have q := fin _ _ h _ _ F (.refl rs) h3
      rcases h1 with h1 | h1
      · exact .inl ⟨p, vs, _, w, rfl, rfl, h1, h2, q⟩
      · exact .inr (.inl ⟨p, vs, _, w, rfl, rfl, h1, h2, q⟩)
    unfold dIx at h
    split at h
    · cases rx; cases ry
      obtain ⟨h0, h⟩ := h
      obtain ⟨c, e, h⟩ := onSome_ex h
      exact .inr (.inr ⟨_, _, c, rfl, rfl, h0, e, fin _ _ h _ _ F (.refl rs) (.str _)⟩)
    all_goals first | exact fq _ rfl h | exact h.elim
  exact ⟨PE_imp (pe_ix h ha.pe hb.pe hs) fun _ _ _ h => liftOp h⟩
abbrev DTO := DSt → Own → (Option Int → Own → Prop) → Prop
def liftO (K : PySem.W.Frag) (t : DTO) : TO := fun σ H VQ => ∃ F O S Q, RS K F O H ∧ SR K F σ S ∧ t S O Q ∧ ∀ o O', Q o O' → ∀ H' F', Stp K F O H F' O' H' → VQ o H'
structure DO (X : Cx) (e : Option Expr) (t : DTO) : Prop where
  po : PO X e (liftO X.K t)
theorem PO_imp {X : Cx} {e : Option Expr} {t t' : TO} (h : PO X e t) (i : ∀ σ H Q, t' σ H Q → t σ H Q) : PO X e t' := ⟨fun pins s σ H Q I q => h.run pins s σ H Q I (i σ H Q q)⟩
def dNoPart (u0_ : DSt) (O : Own) (Q : Option Int → Own → Prop) : Prop := Q none O
def kInt (Q : Int → Own → Prop) : DV → Own → Prop
  | .int i, O => Q i O
  | _, _ => False
def dPart (t : DTE) (S : DSt) (O : Own) (Q : Option Int → Own → Prop) : Prop := t S O (kInt fun i O' => Q (some i) O')
theorem do_none {X : Cx} : DO X none dNoPart := ⟨PO_imp po_none fun σ H VQ ⟨F, O, S, Q, rs, sr, h, fin⟩ => fin _ _ h H F (.refl rs)⟩
theorem do_some {X : Cx} {e : Expr} {t : DTE} (h : DE X e t) : DO X (some e) (dPart t) := by
  refine ⟨PO_imp (po_some h.pe) fun σ H VQ ⟨F, O, S, Q, rs, sr, h, fin⟩ => ⟨F, O, S, _, rs, sr, h, fun d O1 h1 v H1 F1 s1 rv => ?_⟩⟩
  cases rv with
  | int i => exact ⟨i, rfl, fin _ _ h1 H1 F1 s1⟩
  | _ => exact h1.elim
/-- the items of xs[lo:hi] -/
def cutD (xs : List DV) (lo hi : Option Int) : List DV := (xs.drop (HT.sIx xs.length 0 lo)).take (HT.sIx xs.length xs.length hi - HT.sIx xs.length 0 lo)
theorem cut_rep {K : PySem.W.Frag} {F : Hp} {vs : List V} {ds : List DV} (r : Reps K F vs ds) (lo hi : Option Int) : Reps K F (cutV vs lo hi) (cutD ds lo hi) := by
  unfold cutV cutD
  rw [r.len]
  exact (r.drop _).take _
/-- a list, not a tuple -/
def sqlOf (O : Own) : DV → Option (List DV)
  | .lst xs => some xs
  | .slst xs => some xs
  | .ref a => match O a with
    | some (.lst xs) => some xs
    | _ => none
  | _ => none
theorem sqlOf_at {K : PySem.W.Frag} {F H : Hp} {O : Own} {v : V} {d : DV} {xs : List DV} (rs : RS K F O H) (r : Rep K F v d) (h : sqlOf O d = some xs) : ∃ a vs, v = .ref a ∧ SqL K H a vs ∧ Reps K F vs xs := by
  cases r with
  | lst e r => cases h; exact ⟨_, _, rfl, SqL.of (rs.lst e), r⟩
  | slst e r => cases h; exact ⟨_, _, rfl, rs.sqL e, r⟩
  | ref a =>
    simp only [sqlOf] at h
    split at h
    · rename_i ys e
      cases h
      obtain ⟨_, vs, h1, h2⟩ := rs.own a _ e
      exact ⟨a, vs, rfl, SqL.of h1, h2⟩
    · cases h
  | _ => cases h
abbrev DR3 := DV → Option Int → Option Int → Own → DVK → Prop
def sqlQ (O : Own) : DV → (List DV → Prop) → Prop
  | .lst xs, K => K xs
  | .slst xs, K => K xs
  | .ref a, K => onL (O a) K
  | _, _ => False
theorem sqlQ_ex {O : Own} {d : DV} {K : List DV → Prop} (h : sqlQ O d K) : ∃ xs, sqlOf O d = some xs ∧ K xs := by
  unfold sqlQ at h
  split at h
  · exact ⟨_, rfl, h⟩
  · exact ⟨_, rfl, h⟩
  · rename_i a
    obtain ⟨xs, e, h⟩ := onL_ex h
    exact ⟨xs, by simp [sqlOf, e], h⟩
  · exact h.elim
def dSlR : DV → Option Int → Option Int → Own → DVK → Prop
  | .str z, lo, hi, O, Q => z.length ≤ sizeLine ∧ Q (.str (cutS z lo hi)) O
  | .tup xs, lo, hi, O, Q => Q (.tup (cutD xs lo hi)) O
  | .lst xs, lo, hi, O, Q => Q (.lst (cutD xs lo hi)) O
  | .slst xs, lo, hi, O, Q => Q (.lst (cutD xs lo hi)) O
  | .ref a, lo, hi, O, Q => onL (O a) fun xs => Q (.lst (cutD xs lo hi)) O
  | _, _, _, _, _ => False
def dSl (r : DR3) (te : DTE) (tl th : DTO) (S : DSt) (O : Own) (Q : DVK) : Prop := te S O fun x O1 => tl S O1 fun l O2 => th S O2 fun u O3 => r x l u O3 Q
theorem de_slice {X : Cx} {e : Expr} {lo hi : Option Expr} {te : DTE} {tl th : DTO} {pos p2 : Pos} (he : DE X e te) (hl : DO X lo tl) (hh : DO X hi th) : DE X (.Subscript e (.Slice lo hi none p2) pos) (dSl dSlR te tl th) := by
  have h : SlR X (fun x lo hi H VQ => ∃ F O dx Q, RS X.K F O H ∧ Rep X.K F x dx ∧ dSlR dx lo hi O Q ∧ FinE X.K F O H Q VQ) := by
    intro pins s σ H x v vl vu lo hi sl VQ I rv hs pl pu h
    obtain ⟨F, O, dx, Q, rs, rx, h, fin⟩ := h
    refine (sl_str.or (sl_tupA.or sl_list)) pins s σ H x v vl vu lo hi sl VQ I rv hs pl pu ?_
    have fl : ∀ {xs : List DV}, sqlOf O dx = some xs → Q (.lst (cutD xs lo hi)) O → (rSlS x lo hi H VQ ∨ (rSlA X.K x lo hi H VQ ∨ rSlL X.K x lo hi H VQ)) := by
      intro xs e h
      obtain ⟨a, vs, rfl, h1, r1⟩ := sqlOf_at rs rx e
      refine .inr (.inr ⟨a, vs, rfl, h1, fun p hp => ?_⟩)
      have s := rs.new hp (.lst (cutV vs lo hi))
      exact fin _ _ h _ _ _ s (.lst upd_same ((cut_rep r1 lo hi).mono s.sub))
    unfold dSlR at h
    split at h
    · cases rx
      exact .inl ⟨_, rfl, h.1, fin _ _ h.2 _ _ F (.refl rs) (.str _)⟩
    · rename_i xs
      cases rx with | @tup a vs _ e1 r1 =>
      refine .inr (.inl ⟨a, vs, rfl, SqT.of (rs.tup e1), fun z => ?_, fun z p hp => ?_⟩)
      · refine fin _ _ h _ _ F (.refl rs) (.tup e1 ?_)
        have : cutD xs lo hi = xs := by
          unfold cutD
          rw [r1.len] at z
          rw [z.1, z.2]; simp
        rw [this]; exact r1
      · have s := rs.new hp (.tup (cutV vs lo hi))
        exact fin _ _ h _ _ _ s (.tup upd_same ((cut_rep r1 lo hi).mono s.sub))
    · rename_i xs
      exact fl rfl h
    · rename_i xs
      exact fl rfl h
    · rename_i a
      obtain ⟨xs, e, h⟩ := onL_ex h
      exact fl (by simp [sqlOf, e]) h
    · exact h.elim
  refine ⟨PE_imp (pe_slice h he.pe hl.po hh.po) ?_⟩
  rintro σ H VQ ⟨F, O, S, Q, rs, sr, h, fin⟩
  exact ⟨F, O, S, _, rs, sr, h, fun d O1 h1 v H1 F1 s1 r1 => ⟨F1, O1, S, _, s1.rs, sr.mono s1.sub, h1, fun o O2 h2 H2 F2 s2 =>
    ⟨F2, O2, S, _, s2.rs, sr.mono (s1.trans s2).sub, h2, fun o' O3 h3 H3 F3 s3 => ⟨F3, O3, d, Q, s3.rs, r1.mono (s2.trans s3).sub, h3, fin.step (s1.trans (s2.trans s3))⟩⟩⟩⟩
end DL

set_option Elab.async false
set_option linter.all false
set_option maxRecDepth 100000
/-! DStm: tests, arguments, displays, statements, loops, comprehensions, calls, over data. -/
namespace DL
open PySem PySem.Spec PyProof.Rows L2 TL

/-! ### tests -/
def dAnd (t u : DTT) (S : DSt) (O : Own) (Q : Bool → Own → Prop) : Prop := t S O fun c O1 => if c = true then u S O1 Q else Q false O1
def dOr (t u : DTT) (S : DSt) (O : Own) (Q : Bool → Own → Prop) : Prop := t S O fun c O1 => if c = true then Q true O1 else u S O1 Q
def dNot (t : DTT) (S : DSt) (O : Own) (Q : Bool → Own → Prop) : Prop := t S O fun c O1 => Q (!c) O1
def kTru (Q : Bool → Own → Prop) : DV → Own → Prop
  | .non, O1 => Q false O1
  | .bl b, O1 => Q b O1
  | .int i, O1 => Q (i != 0) O1
  | .str y, O1 => y.length ≤ sizeLine ∧ Q ((y.length : Int) != 0) O1
  | .lst xs, O1 => Q (!xs.isEmpty) O1
  | .slst xs, O1 => Q (!xs.isEmpty) O1
  | .tup xs, O1 => Q (!xs.isEmpty) O1
  | .stup xs, O1 => Q (!xs.isEmpty) O1
  | .ref a, O1 => onL (O1 a) fun xs => Q (!xs.isEmpty) O1
  | _, _ => False
def dTrue (K : PySem.W.Frag) (t : DTE) (S : DSt) (O : Own) (Q : Bool → Own → Prop) : Prop := t S O (kTru Q)
section
variable {X : Cx} {a b c : Expr} {ta tb : DTE} {tA tB : DTT} {rest : List Expr} {pos : Pos}
theorem dw_and1 (h : DT X a tA) : DW X (.BoolOp .And [a] pos) tA := ⟨pw_and1 h.pt⟩
theorem dw_or1 (h : DT X a tA) : DW X (.BoolOp .Or [a] pos) tA := ⟨pw_or1 h.pt⟩
theorem dw_and (ha : DT X a tA) (hb : DW X (.BoolOp .And (b :: rest) pos) tB) : DW X (.BoolOp .And (a :: b :: rest) pos) (dAnd tA tB) := by
  refine ⟨PW_imp (pw_and ha.pt hb.pw) ?_⟩
  rintro σ H VQ ⟨F, O, S, Q, rs, sr, h, fin⟩
  refine ⟨F, O, S, _, rs, sr, h, fun c O1 h1 H1 F1 s1 => ?_⟩
  dsimp only at h1 ⊢
  split
  · rename_i e
    rw [if_pos e] at h1
    exact ⟨F1, O1, S, Q, s1.rs, sr.mono s1.sub, h1, fin.step s1⟩
  · rename_i e
    rw [if_neg e] at h1
    exact fin _ _ h1 H1 F1 s1
theorem dw_or (ha : DT X a tA) (hb : DW X (.BoolOp .Or (b :: rest) pos) tB) : DW X (.BoolOp .Or (a :: b :: rest) pos) (dOr tA tB) := by
  refine ⟨PW_imp (pw_or ha.pt hb.pw) ?_⟩
  rintro σ H VQ ⟨F, O, S, Q, rs, sr, h, fin⟩
  refine ⟨F, O, S, _, rs, sr, h, fun c O1 h1 H1 F1 s1 => ?_⟩
  dsimp only at h1 ⊢
  split
  · rename_i e
    rw [if_pos e] at h1
    exact fin _ _ h1 H1 F1 s1
  · rename_i e
    rw [if_neg e] at h1
    exact ⟨F1, O1, S, Q, s1.rs, sr.mono s1.sub, h1, fin.step s1⟩
theorem dt_w (h : DW X a tA) : DT X a tA := ⟨h.pw.pt⟩
theorem dt_not (ha : DT X a tA) : DT X (.UnaryOp .Not a pos) (dNot tA) := by
  refine ⟨PT_imp (pt_not ha.pt) ?_⟩
  rintro σ H VQ ⟨F, O, S, Q, rs, sr, h, fin⟩
  exact ⟨F, O, S, _, rs, sr, h, fun c O1 h1 H1 F1 s1 => fin _ _ h1 H1 F1 s1⟩
/-- an expression whose value is a bool -/
theorem dt_val (h : DE X a ta) (he : ∀ whole, isTrue a X.env whole = (do let v ← whole; standAt a.pos; holding [v] (truthy v)) := by intro _; rfl) : DT X a (dTest ta) := by
  refine ⟨PT_imp (pt_val h.pe he) ?_⟩
  rintro σ H VQ ⟨F, O, S, Q, rs, sr, h, fin⟩
  refine ⟨F, O, S, _, rs, sr, h, fun d O1 h1 v H1 F1 s1 rv => ?_⟩
  cases rv with
  | bl b => exact ⟨b, rfl, fin b O1 h1 H1 F1 s1⟩
  | _ => exact h1.elim
theorem dt_tru (h : DE X a ta) (he : ∀ whole, isTrue a X.env whole = (do let v ← whole; standAt a.pos; holding [v] (truthy v)) := by intro _; rfl) : DT X a (dTrue X.K ta) := by
  refine ⟨PT_imp (pt_truth h.pe he) ?_⟩
  rintro σ H VQ ⟨F, O, S, Q, rs, sr, h, fin⟩
  refine ⟨F, O, S, _, rs, sr, h, fun d O1 h1 v H1 F1 s1 rv => ?_⟩
  have fq : ∀ {xs : List DV}, seqOf O1 d = some xs → Q (!xs.isEmpty) O1 → ∃ k, TruV X.K v H1 k ∧ VQ k H1 := by
    intro xs e h1
    obtain ⟨p, vs, rfl, h2, r2⟩ := seqOf_at s1.rs rv e
    have ee : (!vs.isEmpty) = (!xs.isEmpty) := by cases r2 <;> rfl
    refine ⟨!vs.isEmpty, ?_, by rw [ee]; exact fin _ O1 h1 H1 F1 s1⟩
    rcases h2 with h2 | h2
    · exact .inl ⟨vs, h2, rfl⟩
    · exact .inr (.inl ⟨vs, h2, rfl⟩)
  unfold kTru at h1
  split at h1
  · cases rv; exact ⟨_, rfl, fin _ O1 h1 H1 F1 s1⟩
  · cases rv; exact ⟨_, rfl, fin _ O1 h1 H1 F1 s1⟩
  · cases rv; exact ⟨_, rfl, fin _ O1 h1 H1 F1 s1⟩
  · cases rv; exact ⟨_, ⟨h1.1, rfl⟩, fin _ O1 h1.2 H1 F1 s1⟩
  · exact fq rfl h1
  · exact fq rfl h1
  · exact fq rfl h1
  · exact fq rfl h1
  · rename_i a
    obtain ⟨xs, e, h1⟩ := onL_ex h1
    exact fq (by simp [seqOf, e]) h1
  · exact h1.elim
/-- .. as values -/
def dAndV (ta tb : DTE) (S : DSt) (O : Own) (Q : DVK) : Prop := ta S O (kBl fun c O1 => if c = true then tb S O1 Q else Q (.bl false) O1)
def dOrV (ta tb : DTE) (S : DSt) (O : Own) (Q : DVK) : Prop := ta S O (kBl fun c O1 => if c = true then Q (.bl true) O1 else tb S O1 Q)
def dNotV (ta : DTE) (S : DSt) (O : Own) (Q : DVK) : Prop := ta S O (kBl fun c O1 => Q (.bl (!c)) O1)
theorem de_one {op} (h : DE X a ta) : DE X (.BoolOp op [a] pos) ta := ⟨pe_one h.pe⟩
theorem de_and (ha : DE X a ta) (hb : DE X (.BoolOp .And (b :: rest) pos) tb) : DE X (.BoolOp .And (a :: b :: rest) pos) (dAndV ta tb) := by
  refine ⟨PE_imp (pe_and ha.pe hb.pe) ?_⟩
  rintro σ H VQ ⟨F, O, S, Q, rs, sr, h, fin⟩
  refine ⟨F, O, S, _, rs, sr, h, fun d O1 h1 v H1 F1 s1 rv => ?_⟩
  cases rv with
  | bl c =>
    refine ⟨c, rfl, ?_⟩
    dsimp only [kBl] at h1
    split
    · rename_i e; rw [if_pos e] at h1
      exact ⟨F1, O1, S, Q, s1.rs, sr.mono s1.sub, h1, fin.step s1⟩
    · rename_i e; rw [if_neg e] at h1
      exact fin _ _ h1 _ H1 F1 s1 (.bl _)
  | _ => exact h1.elim
theorem de_or (ha : DE X a ta) (hb : DE X (.BoolOp .Or (b :: rest) pos) tb) : DE X (.BoolOp .Or (a :: b :: rest) pos) (dOrV ta tb) := by
  refine ⟨PE_imp (pe_or ha.pe hb.pe) ?_⟩
  rintro σ H VQ ⟨F, O, S, Q, rs, sr, h, fin⟩
  refine ⟨F, O, S, _, rs, sr, h, fun d O1 h1 v H1 F1 s1 rv => ?_⟩
  cases rv with
  | bl c =>
    refine ⟨c, rfl, ?_⟩
    dsimp only [kBl] at h1
    split
    · rename_i e; rw [if_pos e] at h1
      exact fin _ _ h1 _ H1 F1 s1 (.bl _)
    · rename_i e; rw [if_neg e] at h1
      exact ⟨F1, O1, S, Q, s1.rs, sr.mono s1.sub, h1, fin.step s1⟩
  | _ => exact h1.elim
theorem de_not (ha : DE X a ta) : DE X (.UnaryOp .Not a pos) (dNotV ta) := by
  refine ⟨PE_imp (pe_not ha.pe) ?_⟩
  rintro σ H VQ ⟨F, O, S, Q, rs, sr, h, fin⟩
  refine ⟨F, O, S, _, rs, sr, h, fun d O1 h1 v H1 F1 s1 rv => ?_⟩
  cases rv with
  | bl c => exact ⟨c, rfl, fin _ _ h1 _ H1 F1 s1 (.bl _)⟩
  | _ => exact h1.elim
/-- a if t else b -/
def dIf (t : DTT) (ta tb : DTE) (S : DSt) (O : Own) (Q : DVK) : Prop := t S O fun c O1 => if c = true then ta S O1 Q else tb S O1 Q
theorem de_if (hc : DT X c tA) (ha : DE X a ta) (hb : DE X b tb) : DE X (.IfExp c a b pos) (dIf tA ta tb) := by
  refine ⟨PE_imp (pe_ifExp hc.pt ha.pe hb.pe) ?_⟩
  rintro σ H VQ ⟨F, O, S, Q, rs, sr, h, fin⟩
  refine ⟨F, O, S, _, rs, sr, h, fun c O1 h1 H1 F1 s1 => ?_⟩
  dsimp only at h1 ⊢
  split
  · rename_i e; rw [if_pos e] at h1
    exact ⟨F1, O1, S, Q, s1.rs, sr.mono s1.sub, h1, fin.step s1⟩
  · rename_i e; rw [if_neg e] at h1
    exact ⟨F1, O1, S, Q, s1.rs, sr.mono s1.sub, h1, fin.step s1⟩
def dNeg (t : DTE) (S : DSt) (O : Own) (Q : DVK) : Prop := t S O (kInt fun i O1 => Q (.int (-i)) O1)
theorem de_neg (ha : DE X a ta) : DE X (.UnaryOp .USub a pos) (dNeg ta) := by
  refine ⟨PE_imp (pe_un un_neg ha.pe) ?_⟩
  rintro σ H VQ ⟨F, O, S, Q, rs, sr, h, fin⟩
  refine ⟨F, O, S, _, rs, sr, h, fun d O1 h1 v H1 F1 s1 rv => ?_⟩
  cases rv with
  | int i => exact ⟨i, rfl, fin _ _ h1 _ H1 F1 s1 (.int _)⟩
  | _ => exact h1.elim
end

/-! ### arguments, displays -/
def dANil (u0_ : DSt) (O : Own) (Q : List DV → Own → Prop) : Prop := Q [] O
def dACons (te : DTE) (tr : DTA) (S : DSt) (O : Own) (Q : List DV → Own → Prop) : Prop := te S O fun x O1 => tr S O1 fun xs O2 => Q (x :: xs) O2
section
variable {X : Cx} {e : Expr} {es : List Expr} {te : DTE} {t : DTA} {pos : Pos}
theorem da_nil : DA X [] dANil := ⟨PA_imp pa_nil fun σ H VQ ⟨F, O, S, Q, rs, sr, h, fin⟩ => fin _ _ h [] H F (.refl rs) .nil⟩
theorem da_cons (ha : DE X e te) (hr : DA X es t) (hs : starEach (e :: es) X.env = (false, eval e X.env) :: starEach es X.env := by rfl) : DA X (e :: es) (dACons te t) := by
  refine ⟨PA_imp (pa_cons ha.pe hr.pa hs) ?_⟩
  rintro σ H VQ ⟨F, O, S, Q, rs, sr, h, fin⟩
  exact ⟨F, O, S, _, rs, sr, h, fun d O1 h1 v H1 F1 s1 rv => ⟨F1, O1, S, _, s1.rs, sr.mono s1.sub, h1, fun ds O2 h2 vs H2 F2 s2 r2 => fin _ _ h2 _ H2 F2 (s1.trans s2) (.cons (rv.mono s2.sub) r2)⟩⟩
theorem small_line {n : Nat} (h : n ≤ 4096) : n ≤ sizeLine := by
  have := sizeLine_eq
  omega
def dTup (t : DTA) (S : DSt) (O : Own) (Q : DVK) : Prop := t S O fun xs O1 => xs.length ≤ 4096 ∧ Q (.tup xs) O1
def dLstF (t : DTA) (S : DSt) (O : Own) (Q : DVK) : Prop := t S O fun xs O1 => xs.length ≤ 4096 ∧ Q (.lst xs) O1
def dLstO (t : DTA) (S : DSt) (O : Own) (Q : DVK) : Prop := t S O fun xs O1 => xs.length ≤ 4096 ∧ ∀ p, O1 p = none → Q (.ref p) (oset O1 p (.lst xs))
theorem de_tup {x1} (h : DA X es t) : DE X (.Tuple es x1 pos) (dTup t) := by
  refine ⟨PE_imp (pe_tup h.pa) ?_⟩
  rintro σ H VQ ⟨F, O, S, Q, rs, sr, h, fin⟩
  refine ⟨F, O, S, _, rs, sr, h, fun ds O1 h1 vs H1 F1 s1 r1 => ⟨by rw [r1.len]; exact small_line h1.1, fun p hp => ?_⟩⟩
  have s := s1.rs.new hp (.tup vs)
  exact fin _ _ h1.2 _ _ _ (s1.trans s) (.tup upd_same (r1.mono s.sub))
theorem de_lstF (h : DA X es t) : DE X (.List es pos) (dLstF t) := by
  refine ⟨PE_imp (pe_lst h.pa) ?_⟩
  rintro σ H VQ ⟨F, O, S, Q, rs, sr, h, fin⟩
  refine ⟨F, O, S, _, rs, sr, h, fun ds O1 h1 vs H1 F1 s1 r1 => ⟨by rw [r1.len]; exact small_line h1.1, fun p hp => ?_⟩⟩
  have s := s1.rs.new hp (.lst vs)
  exact fin _ _ h1.2 _ _ _ (s1.trans s) (.lst upd_same (r1.mono s.sub))
theorem de_lstO (h : DA X es t) : DE X (.List es pos) (dLstO t) := by
  refine ⟨PE_imp (pe_lst h.pa) ?_⟩
  rintro σ H VQ ⟨F, O, S, Q, rs, sr, h, fin⟩
  refine ⟨F, O, S, _, rs, sr, h, fun ds O1 h1 vs H1 F1 s1 r1 => ⟨by rw [r1.len]; exact small_line h1.1, fun p hp => ?_⟩⟩
  have rs' := s1.rs.newO hp (o := .lst vs) (c := .lst ds) ⟨vs, upd_same, r1⟩
  exact fin _ _ (h1.2 p (s1.rs.free hp).2) _ _ _ (s1.trans rs') (.ref p)
end

/-! ### built-in calls -/
abbrev DRL := List DV → Own → DVK → Prop
def liftC (K : PySem.W.Frag) (r : DRL) : List V → Hp → VK → Prop := fun vs H VQ => ∃ F O ds Q, RS K F O H ∧ Reps K F vs ds ∧ r ds O Q ∧ FinE K F O H Q VQ
structure CallD (X : Cx) (f : Value) (r : DRL) : Prop where
  cr : CallR X f (liftC X.K r)
theorem CallR_imp {X : Cx} {f : Value} {r r' : List V → Hp → VK → Prop} (h : CallR X f r) (i : ∀ vs H Q, r' vs H Q → r vs H Q) : CallR X f r' := fun pins s σ H xs us Q I v q => h pins s σ H xs us Q I v (i xs H Q q)
def dCB (r : DRL) (t : DTA) (S : DSt) (O : Own) (Q : DVK) : Prop := t S O fun ds O1 => r ds O1 Q
section
variable {X : Cx} {x : Str} {p pos : Pos} {e : Expr} {es : List Expr} {t : DTA} {id T : String} {r : DRL}
theorem liftCB {K : PySem.W.Frag} {r : DRL} {t : DTA} {σ : L2.St} {H : Hp} {VQ : VK} (h : liftE K (dCB r t) σ H VQ) : tCB (liftC K r) (liftA K t) σ H VQ := by
  obtain ⟨F, O, S, Q, rs, sr, h, fin⟩ := h
  exact ⟨F, O, S, _, rs, sr, h, fun ds O1 h1 vs H1 F1 s1 r1 => ⟨F1, O1, ds, Q, s1.rs, r1, h1, fin.step s1⟩⟩
theorem de_callB (hc : CallD X (.builtin id) r) (hm : X.mg x = none) (hv : bootBuiltins x = some (.builtin id)) (ha : DA X (e :: es) t) (hg : Gl X x := by rfl) (hn : x ≠ "__name__" := by decide) (hdb : (x == ("__debug__" : Str)) = false := by decide)
    (he : starEach (e :: es) X.env = (false, eval e X.env) :: starEach es X.env := by rfl) (hpl : (backTo pos (starEach es X.env)).any (·.1) = false := by rfl) : DE X (.Call (.Name x p) (e :: es) [] pos) (dCB r t) :=
  ⟨PE_imp (pe_callB hc.cr hg hm hv ha.pa hn hdb he hpl) fun _ _ _ h => liftCB h⟩
theorem de_callTy (hc : CallD X (.type T) r) (hm : X.mg x = none) (hv : bootBuiltins x = some (.type T)) (ha : DA X (e :: es) t) (hg : Gl X x := by rfl) (hn : x ≠ "__name__" := by decide) (hdb : (x == ("__debug__" : Str)) = false := by decide)
    (he : starEach (e :: es) X.env = (false, eval e X.env) :: starEach es X.env := by rfl) (hpl : (backTo pos (starEach es X.env)).any (·.1) = false := by rfl) : DE X (.Call (.Name x p) (e :: es) [] pos) (dCB r t) :=
  ⟨PE_imp (pe_callTy hc.cr hg hm hv ha.pa hn hdb he hpl) fun _ _ _ h => liftCB h⟩
end
theorem Reps.one {K : PySem.W.Frag} {F : Hp} {vs : List V} {d : DV} (r : Reps K F vs [d]) : ∃ v, vs = [v] ∧ Rep K F v d := by
  cases r with | cons h r => cases r; exact ⟨_, rfl, h⟩
theorem Reps.two {K : PySem.W.Frag} {F : Hp} {vs : List V} {d e : DV} (r : Reps K F vs [d, e]) : ∃ v w, vs = [v, w] ∧ Rep K F v d ∧ Rep K F w e := by
  cases r with | cons h r => cases r with | cons h2 r => cases r; exact ⟨_, _, rfl, h, h2⟩
/-- len -/
def dLen : List DV → Own → DVK → Prop
  | [.str y], O, Q => y.length ≤ sizeLine ∧ Q (.int y.length) O
  | [.lst xs], O, Q => Q (.int xs.length) O
  | [.slst xs], O, Q => Q (.int xs.length) O
  | [.tup xs], O, Q => Q (.int xs.length) O
  | [.stup xs], O, Q => Q (.int xs.length) O
  | [.ref a], O, Q => onL (O a) fun xs => Q (.int xs.length) O
  | _, _, _ => False
theorem cd_len {X : Cx} : CallD X (.builtin "len") dLen := by
  refine ⟨CallR_imp call_len ?_⟩
  rintro vs H VQ ⟨F, O, ds, Q, rs, rr, h, fin⟩
  have fq : ∀ {d : DV} {xs : List DV}, ds = [d] → seqOf O d = some xs → Q (.int xs.length) O → ∃ x n, vs = [x] ∧ LenV X.K x H n ∧ VQ (.int n) H := by
    intro d xs ed e hq
    subst ed
    obtain ⟨v, rfl, r⟩ := rr.one
    obtain ⟨a, ws, rfl, h1, r1⟩ := seqOf_at rs r e
    refine ⟨.ref a, ws.length, rfl, ?_, ?_⟩
    · rcases h1 with h1 | h1
      · exact .inl ⟨ws, h1, rfl⟩
      · exact .inr ⟨ws, h1, rfl⟩
    · rw [r1.len]; exact fin _ _ hq _ _ F (.refl rs) (.int _)
  unfold dLen at h
  split at h
  · obtain ⟨v, rfl, r⟩ := rr.one
    cases r
    exact ⟨_, _, rfl, ⟨h.1, rfl⟩, fin _ _ h.2 _ _ F (.refl rs) (.int _)⟩
  · exact fq rfl rfl h
  · exact fq rfl rfl h
  · exact fq rfl rfl h
  · exact fq rfl rfl h
  · rename_i a
    obtain ⟨xs, e, h⟩ := onL_ex h
    exact fq rfl (by simp [seqOf, e]) h
  · exact h.elim
/-- int -/
def dInt : List DV → Own → DVK → Prop
  | [.int i], O, Q => Q (.int i) O
  | [.bl k], O, Q => Q (.int (if k then 1 else 0)) O
  | [.str a], O, Q => ∃ n, PySem.intText? a = some n ∧ a.length ≤ 640 ∧ Q (.int n) O
  | _, _, _ => False
theorem cd_int {X : Cx} : CallD X (.type "int") dInt := by
  refine ⟨CallR_imp (call_int1.or call_int_str) ?_⟩
  rintro vs H VQ ⟨F, O, ds, Q, rs, rr, h, fin⟩
  unfold dInt at h
  split at h
  · obtain ⟨v, rfl, r⟩ := rr.one
    cases r
    exact .inl (.inl ⟨_, rfl, fin _ _ h _ _ F (.refl rs) (.int _)⟩)
  · obtain ⟨v, rfl, r⟩ := rr.one
    cases r
    exact .inl (.inr ⟨_, rfl, fin _ _ h _ _ F (.refl rs) (.int _)⟩)
  · obtain ⟨v, rfl, r⟩ := rr.one
    cases r
    obtain ⟨n, h1, h2, h3⟩ := h
    exact .inr ⟨_, n, rfl, h1, h2, fin _ _ h3 _ _ F (.refl rs) (.int _)⟩
  · exact h.elim
/-- str of an int -/
def dStrI : List DV → Own → DVK → Prop
  | [.int i], O, Q => i.natAbs.log2 < 1920 ∧ Q (.str (toString i)) O
  | _, _, _ => False
theorem cd_str {X : Cx} : CallD X (.type "str") dStrI := by
  refine ⟨CallR_imp call_str_int ?_⟩
  rintro vs H VQ ⟨F, O, ds, Q, rs, rr, h, fin⟩
  unfold dStrI at h
  split at h
  · obtain ⟨v, rfl, r⟩ := rr.one
    cases r
    exact ⟨_, rfl, h.1, fin _ _ h.2 _ _ F (.refl rs) (.str _)⟩
  · exact h.elim
/-- isinstance by a built-in type -/
def tyName (O : Own) : DV → Option String
  | .non => some "NoneType"
  | .bl _ => some "bool"
  | .int _ => some "int"
  | .str _ => some "str"
  | .tup _ => some "tuple"
  | .stup _ => some "tuple"
  | .lst _ => some "list"
  | .slst _ => some "list"
  | .dK _ => some "dict"
  | .ref a => match O a with
    | some (.lst _) => some "list"
    | some (.dK _) => some "dict"
    | some (.dT _) => some "dict"
    | _ => none
  | _ => none
def subTy (a b : String) : Bool := a == b || (a == "bool" && b == "int")
def dIsi : List DV → Own → DVK → Prop
  | [d, .ty b], O, Q => onSome (tyName O d) fun a => b ∈ ["int", "str", "bool", "list", "tuple", "dict"] ∧ Q (.bl (subTy a b)) O
  | _, _, _ => False
theorem kitB_sub : ∀ a ∈ ["NoneType", "bool", "int", "str", "tuple", "list", "dict"], ∀ b ∈ ["int", "str", "bool", "list", "tuple", "dict"], kitB a b = some (subTy a b) := by decide +kernel
theorem tyName_mem {O : Own} {d : DV} {a : String} (h : tyName O d = some a) : a ∈ ["NoneType", "bool", "int", "str", "tuple", "list", "dict"] := by
  unfold tyName at h
  split at h <;> first | (cases h; done) | (cases h; decide) | skip
  split at h <;> first | (cases h; done) | (cases h; decide)
theorem tyName_at {K : PySem.W.Frag} {F H : Hp} {O : Own} {v : V} {d : DV} {a : String} (rs : RS K F O H) (r : Rep K F v d) (h : tyName O d = some a) : TyX K H v (.type a) := by
  cases r with
  | non => cases h; exact .base .non
  | bl b => cases h; exact .base (.bl b)
  | int b => cases h; exact .base (.int b)
  | str b => cases h; exact .base (.str b)
  | ty b => cases h
  | tup e r => cases h; exact .base (.tup (rs.tup e))
  | stup e r =>
    cases h
    rcases rs.sqT e with (e | ⟨o, e⟩) | ⟨o, its, n, e, c, _⟩
    · exact .base (.tup e)
    · exact .fTuple e
    · exact .kTuple e c
  | lst e r => cases h; exact .base (.lst (rs.lst e))
  | slst e r =>
    cases h
    rcases rs.sqL e with (e | ⟨o, e⟩) | ⟨o, its, n, e, c, _⟩
    · exact .base (.lst e)
    · exact .base (.frz e)
    · exact .kList e c
  | dK e r =>
    cases h
    rcases rs.fro _ _ e with e | ⟨_, ob, e⟩
    · exact .base (.dK e)
    · exact .fDict e
  | dT e r => cases h
  | ref p =>
    simp only [tyName] at h
    split at h
    · rename_i xs e; cases h
      obtain ⟨_, vs, h1, _⟩ := rs.own p _ e
      exact .base (.lst h1)
    · rename_i xs e; cases h
      obtain ⟨_, vs, h1, _⟩ := rs.own p _ e
      exact .base (.dK h1)
    · rename_i xs e; cases h
      obtain ⟨_, vs, h1, _⟩ := rs.own p _ e
      exact .base (.dT h1)
    · cases h
theorem cd_isi {X : Cx} : CallD X (.builtin "isinstance") dIsi := by
  refine ⟨CallR_imp call_isi ?_⟩
  rintro vs H VQ ⟨F, O, ds, Q, rs, rr, h, fin⟩
  unfold dIsi at h
  split at h
  · rename_i d b
    obtain ⟨v, w, rfl, r1, r2⟩ := rr.two
    cases r2
    obtain ⟨a, e, h⟩ := onSome_ex h
    exact ⟨v, .ty b, _, _, _, rfl, .ty b, tyName_at rs r1 e, kit_ty (kitB_sub a (tyName_mem e) b h.1), fin _ _ h.2 _ _ F (.refl rs) (.bl _)⟩
  · exact h.elim
end DL

set_option Elab.async false
set_option linter.all false
set_option maxRecDepth 100000
/-! DRun: methods, targets, statements, loops, comprehensions, calls, over data. -/
namespace DL
open PySem PySem.Spec PyProof.Rows L2 TL

/-! ### methods of built-in types -/
abbrev DRM := DV → List DV → Own → DVK → Prop
def mTy (O : Own) : DV → Option String
  | .str _ => some "str"
  | .lst _ => some "list"
  | .slst _ => some "list"
  | .ref a => match O a with
    | some (.lst _) => some "list"
    | some (.dK _) => some "dict"
    | some (.dT _) => some "dict"
    | _ => none
  | _ => none
theorem mTy_at {K : PySem.W.Frag} {F H : Hp} {O : Own} {v : V} {d : DV} {T : String} (rs : RS K F O H) (r : Rep K F v d) (h : mTy O d = some T) : tyV K T v H := by
  cases r with
  | str x => cases h; rfl
  | lst e r => cases h; exact .inl ⟨rfl, _, SqL.of (rs.lst e)⟩
  | slst e r => cases h; exact .inl ⟨rfl, _, rs.sqL e⟩
  | ref a =>
    simp only [mTy] at h
    split at h
    · rename_i xs e; cases h
      obtain ⟨_, vs, h1, _⟩ := rs.own a _ e
      exact .inl ⟨rfl, vs, SqL.of h1⟩
    · rename_i xs e; cases h
      obtain ⟨_, vs, h1, _⟩ := rs.own a _ e
      exact .inr (.inr (.inl ⟨rfl, .inl ⟨vs, h1⟩⟩))
    · rename_i xs e; cases h
      obtain ⟨_, vs, h1, _⟩ := rs.own a _ e
      exact .inr (.inr (.inl ⟨rfl, .inr ⟨vs, h1⟩⟩))
    · cases h
  | _ => cases h
def liftM (K : PySem.W.Frag) (r : DRM) : V → List V → Hp → VK → Prop := fun v vs H VQ => ∃ F O d ds Q, RS K F O H ∧ Rep K F v d ∧ Reps K F vs ds ∧ r d ds O Q ∧ FinE K F O H Q VQ
structure MtD (X : Cx) (id : String) (r : DRM) : Prop where
  mt : MtR X id (liftM X.K r)
theorem MtR_imp {X : Cx} {id : String} {r r' : V → List V → Hp → VK → Prop} (h : MtR X id r) (i : ∀ x xs H Q, r' x xs H Q → r x xs H Q) : MtR X id r' := fun pins s σ H x xs v us Q I rx rv q => h pins s σ H x xs v us Q I rx rv (i x xs H Q q)
def dBM (T : String) (r : DRM) (to : DTE) (t : DTA) (S : DSt) (O : Own) (Q : DVK) : Prop := to S O fun x O1 => mTy O1 x = some T ∧ t S O1 fun xs O2 => r x xs O2 Q
def dBM0 (T : String) (r : DRM) (to : DTE) (S : DSt) (O : Own) (Q : DVK) : Prop := to S O fun x O1 => mTy O1 x = some T ∧ r x [] O1 Q
section
variable {X : Cx} {o e : Expr} {es : List Expr} {to : DTE} {t : DTA} {name : Str} {apos cpos : Pos} {T id : String} {r : DRM}
theorem de_bm (pa : PlainAttrs T) (sl : Slot T name id) (hty : typeOf (.builtin id) = pure (.type "method_descriptor")) (hm : MtD X id r) (ho : DE X o to) (ha : DA X (e :: es) t)
    (hbase : attributeBase o name X.env (eval o X.env) = eval o X.env := by rfl)
    (hfew : ((backTo cpos (starEach (e :: es) X.env)).all (fun x => !x.1) && (backToKw cpos (keywordEach [] X.env)).all (fun x => x.1.isSome)
      && decide ((e :: es).length + ([] : List Keyword).length + (if ([] : List Keyword).isEmpty then 0 else 1) < 30)) = true := by rfl)
    (hline : (apos.endLine == cpos.line) = true := by rfl) (hs : starEach (e :: es) X.env = (false, eval e X.env) :: starEach es X.env := by rfl) (hplain : (backTo cpos (starEach es X.env)).any (·.1) = false := by rfl) :
    DE X (.Call (.Attribute o name apos) (e :: es) [] cpos) (dBM T r to t) := by
  refine ⟨PE_imp (pe_bm pa sl hty hm.mt ho.pe ha.pa hbase hfew hline hs hplain) ?_⟩
  rintro σ H VQ ⟨F, O, S, Q, rs, sr, h, fin⟩
  exact ⟨F, O, S, _, rs, sr, h, fun d O1 h1 v H1 F1 s1 rv => ⟨mTy_at s1.rs rv h1.1, F1, O1, S, _, s1.rs, sr.mono s1.sub, h1.2, fun ds O2 h2 vs H2 F2 s2 r2 => ⟨F2, O2, d, ds, Q, s2.rs, rv.mono s2.sub, r2, h2, fin.step (s1.trans s2)⟩⟩⟩
theorem de_bm0 (pa : PlainAttrs T) (sl : Slot T name id) (hty : typeOf (.builtin id) = pure (.type "method_descriptor")) (hm : MtD X id r) (ho : DE X o to)
    (hbase : attributeBase o name X.env (eval o X.env) = eval o X.env := by rfl) (hline : (apos.endLine == cpos.line) = true := by rfl) : DE X (.Call (.Attribute o name apos) [] [] cpos) (dBM0 T r to) := by
  refine ⟨PE_imp (pe_bm0 pa sl hty hm.mt ho.pe hbase hline) ?_⟩
  rintro σ H VQ ⟨F, O, S, Q, rs, sr, h, fin⟩
  exact ⟨F, O, S, _, rs, sr, h, fun d O1 h1 v H1 F1 s1 rv => ⟨mTy_at s1.rs rv h1.1, F1, O1, d, [], Q, s1.rs, rv, .nil, h1.2, fin.step s1⟩⟩
end
/-- xs.append(y) -/
def dApp : DV → List DV → Own → DVK → Prop
  | .ref a, [y], O, Q => onL (O a) fun xs => xs.length < sizeLine ∧ Q .non (oset O a (.lst (xs ++ [y])))
  | _, _, _, _ => False
theorem md_append {X : Cx} : MtD X "list.append" dApp := by
  refine ⟨MtR_imp mt_append ?_⟩
  rintro x xs H VQ ⟨F, O, d, ds, Q, rs, rx, rr, h, fin⟩
  unfold dApp at h
  split at h
  · rename_i a y
    cases rx
    obtain ⟨v, rfl, ry⟩ := rr.one
    obtain ⟨ys, e, h⟩ := onL_ex h
    obtain ⟨_, vs, h1, r1⟩ := rs.own a _ e
    refine ⟨a, vs, v, rfl, rfl, h1, by rw [r1.len]; exact h.1, ?_⟩
    exact fin _ _ h.2 _ _ F (rs.write e ⟨_, upd_same, r1.append (.cons ry .nil)⟩) .non
  · exact h.elim
def strOf : DV → Option Str
  | .str x => some x
  | _ => none
def strsOf : List DV → Option (List Str)
  | [] => some []
  | .str x :: r => match strsOf r with
    | some ys => some (x :: ys)
    | none => none
  | _ => none
theorem strsOf_map : ∀ ys : List Str, strsOf (ys.map DV.str) = some ys
  | [] => rfl
  | y :: r => by simp only [List.map_cons, strsOf, strsOf_map r]
theorem strsOf_eq : ∀ {xs : List DV} {ys : List Str}, strsOf xs = some ys → xs = ys.map DV.str
  | [], _, h => by cases h; rfl
  | .str x :: r, _, h => by
    unfold strsOf at h
    split at h
    · rename_i ys e; cases h; rw [strsOf_eq e]; rfl
    · cases h
  | .non :: _, _, h => by cases h
  | .bl _ :: _, _, h => by cases h
  | .int _ :: _, _, h => by cases h
  | .tup _ :: _, _, h => by cases h
  | .lst _ :: _, _, h => by cases h
  | .slst _ :: _, _, h => by cases h
  | .stup _ :: _, _, h => by cases h
  | .dK _ :: _, _, h => by cases h
  | .dT _ :: _, _, h => by cases h
  | .ref _ :: _, _, h => by cases h
  | .ty _ :: _, _, h => by cases h
/-- sep.join(xs) -/
def dJoin : DV → List DV → Own → DVK → Prop
  | .str a, [d], O, Q => seqQ O d fun xs => onSome (strsOf xs) fun ys => (ys.map (·.length)).sum + ys.length * a.length ≤ 16777216 ∧ Q (.str (Txt.join a ys)) O
  | _, _, _, _ => False
theorem md_join {X : Cx} : MtD X "str.join" dJoin := by
  refine ⟨MtR_imp mt_join ?_⟩
  rintro x xs H VQ ⟨F, O, d, ds, Q, rs, rx, rr, h, fin⟩
  unfold dJoin at h
  split at h
  · rename_i a y
    cases rx
    obtain ⟨v, rfl, ry⟩ := rr.one
    obtain ⟨ys, e, h⟩ := seqQ_ex h
    obtain ⟨p, vs, rfl, h1, r1⟩ := seqOf_at rs ry e
    obtain ⟨zs, e2, hj⟩ := onSome_ex h
    have e3 := strsOf_eq e2
    subst e3
    have e4 := r1.strs
    subst e4
    exact ⟨_, p, zs, rfl, rfl, h1, hj.1, fin _ _ hj.2 _ _ F (.refl rs) (.str _)⟩
  · exact h.elim
/-- x.split(sep) -/
def dSplit : DV → List DV → Own → DVK → Prop
  | .str a, [.str b], O, Q => (b.length == 0) = false ∧ a.length + 2 ≤ sizeLine ∧ Q (.lst ((Txt.split a b).map DV.str)) O
  | _, _, _, _ => False
theorem md_split {X : Cx} : MtD X "str.split" dSplit := by
  refine ⟨MtR_imp mt_split ?_⟩
  rintro x xs H VQ ⟨F, O, d, ds, Q, rs, rx, rr, h, fin⟩
  unfold dSplit at h
  split at h
  · rename_i a y
    cases rx
    obtain ⟨v, rfl, ry⟩ := rr.one
    cases ry
    refine ⟨_, _, rfl, rfl, h.1, h.2.1, fun p hp => ?_⟩
    have s := rs.new hp (.lst ((Txt.split a y).map V.str))
    exact fin _ _ h.2.2 _ _ _ s (.lst upd_same (Reps.of_strs _))
  · exact h.elim

/-! ### targets -/
def dgName (i : Nat) (d : DV) (S : DSt) (O : Own) (Q : DSt → Own → Prop) : Prop := Q (S.set i (some d)) O
abbrev DTGs := List DV → DSt → Own → (DSt → Own → Prop) → Prop
def liftGs (K : PySem.W.Frag) (g : DTGs) : TGs := fun vs σ H VQ => ∃ F O S Q ds, RS K F O H ∧ SR K F σ S ∧ Reps K F vs ds ∧ g ds S O Q ∧ FinS K F O H Q VQ
structure DGs (X : Cx) (es : List Expr) (t : DTGs) : Prop where
  pgs : PGs X es (liftGs X.K t)
theorem PGs_imp {X : Cx} {e : List Expr} {t t' : TGs} (h : PGs X e t) (i : ∀ v σ H Q, t' v σ H Q → t v σ H Q) : PGs X e t' := ⟨fun pins s σ H v u Q I r q => h.run pins s σ H v u Q I r (i v σ H Q q)⟩
def dgNil : List DV → DSt → Own → (DSt → Own → Prop) → Prop
  | [], S, O, Q => Q S O
  | _, _, _, _ => False
def dgCons (g : DTG) (u : DTGs) : List DV → DSt → Own → (DSt → Own → Prop) → Prop
  | d :: r, S, O, Q => g d S O fun S' O' => u r S' O' Q
  | [], _, _, _ => False
def dgTup (n : Nat) (t : DTGs) : DV → DSt → Own → (DSt → Own → Prop) → Prop
  | .tup ds, S, O, Q => ds.length = n ∧ t ds S O Q
  | _, _, _, _ => False
def dgLst (n : Nat) (t : DTGs) (d : DV) (S : DSt) (O : Own) (Q : DSt → Own → Prop) : Prop := sqlQ O d fun ds => ds.length = n ∧ t ds S O Q
section
variable {X : Cx} {pos : Pos} {e : Expr} {es : List Expr} {g : DTG} {u : DTGs}
theorem dg_name (i : Nat) {x : Str} (hN : X.N.Nodup) (hi : X.N[i]? = some x := by rfl) (hx : Loc X.env.scope x := by first | exact Or.inl rfl | exact Or.inr rfl) (hf : X.fn x = true ∨ X.env.scope.names.lookup x = some .local := by first | exact .inl rfl | exact .inr rfl) : DG X (.Name x pos) (dgName i) := by
  refine ⟨PG_imp (pg_name hN hi hx hf) ?_⟩
  rintro v σ H VQ ⟨F, O, S, Q, d, rs, sr, r, h, fin⟩
  exact fin _ _ h _ H F (.refl rs) (sr.set i r)
theorem dgs_nil : DGs X [] dgNil := by
  refine ⟨PGs_imp pgs_nil ?_⟩
  rintro v σ H VQ ⟨F, O, S, Q, ds, rs, sr, r, h, fin⟩
  cases r with
  | nil => exact ⟨rfl, fin _ _ h _ H F (.refl rs) sr⟩
  | cons => exact h.elim
theorem dgs_cons (h1 : DG X e g) (h2 : DGs X es u) (hs : (assignEach (e :: es) X.env).map (·.2) = assign e X.env :: (assignEach es X.env).map (·.2) := by rfl) : DGs X (e :: es) (dgCons g u) := by
  refine ⟨PGs_imp (pgs_cons h1.pg h2.pgs hs) ?_⟩
  rintro v σ H VQ ⟨F, O, S, Q, ds, rs, sr, r, h, fin⟩
  cases r with
  | nil => exact h.elim
  | @cons w d vs ds rw_ r =>
    exact ⟨w, vs, rfl, F, O, S, _, d, rs, sr, rw_, h, fun S1 O1 q1 σ1 H1 F1 s1 sr1 => ⟨F1, O1, S1, Q, ds, s1.rs, sr1, r.mono s1.sub, q1, fin.step s1⟩⟩
theorem dg_tup {k n : Nat} (hc : X.calm = true) (h : DGs X es u) (hn : (assignEach es X.env).length = n := by rfl) (hst : (assignEach es X.env).findIdx? (·.1) = none := by rfl) : DG X (.Tuple es k pos) (dgTup n u) := by
  refine ⟨PG_imp (pg_tup hc h.pgs hn hst) ?_⟩
  rintro v σ H VQ ⟨F, O, S, Q, d, rs, sr, r, h, fin⟩
  cases r with
  | @tup a vs ds e r => exact ⟨a, vs, rfl, SqT.of (rs.tup e), by rw [r.len]; exact h.1, F, O, S, Q, ds, rs, sr, r, h.2, fin⟩
  | _ => exact h.elim
theorem dg_lst {k n : Nat} (hc : X.calm = true) (h : DGs X es u) (hn : (assignEach es X.env).length = n := by rfl) (hst : (assignEach es X.env).findIdx? (·.1) = none := by rfl) : DG X (.Tuple es k pos) (dgLst n u) := by
  refine ⟨PG_imp (pg_lst hc h.pgs hn hst) ?_⟩
  rintro v σ H VQ ⟨F, O, S, Q, d, rs, sr, r, h, fin⟩
  obtain ⟨ds, e, h⟩ := sqlQ_ex h
  obtain ⟨a, vs, rfl, h1, r1⟩ := sqlOf_at rs r e
  exact ⟨a, vs, rfl, h1, by rw [r1.len]; exact h.1, F, O, S, Q, ds, rs, sr, r1, h.2, fin⟩
end
end DL

set_option Elab.async false
set_option linter.all false
set_option maxRecDepth 100000
/-! DLoop: statements, loops, comprehensions, calls, over data. -/
namespace DL
open PySem PySem.Spec PyProof.Rows L2 TL

/-! ### o[i] = v -/
abbrev DSet := DV → DV → DV → Own → (Own → Prop) → Prop
def liftSet (K : PySem.W.Frag) (r : DSet) : TSet := fun o i v H VQ => ∃ F O d e f Q, RS K F O H ∧ Rep K F o d ∧ Rep K F i e ∧ Rep K F v f ∧ r d e f O Q ∧ ∀ O', Q O' → ∀ H' F', Stp K F O H F' O' H' → VQ H'
structure PSetD (X : Cx) (r : DSet) : Prop where
  ps : PSet X (liftSet X.K r)
theorem PSet_imp {X : Cx} {r r' : TSet} (h : PSet X r) (i : ∀ o j v H Q, r' o j v H Q → r o j v H Q) : PSet X r' := fun pins s σ H o i' v ov iv u Q I ro ri rv q => h pins s σ H o i' v ov iv u Q I ro ri rv (i o i' v H Q q)
def dSetL : DV → DV → DV → Own → (Own → Prop) → Prop
  | .ref a, .int k, v, O, Q => onL (O a) fun xs => onSome (ixN xs.length k) fun j => Q (oset O a (.lst (xs.set j v)))
  | _, _, _, _, _ => False
theorem psd_list {X : Cx} : PSetD X dSetL := by
  refine ⟨PSet_imp set_list ?_⟩
  rintro o i v H VQ ⟨F, O, d, e, f, Q, rs, ro, ri, rv, h, fin⟩
  unfold dSetL at h
  split at h
  · rename_i a k
    cases ro; cases ri
    obtain ⟨xs, e, h⟩ := onL_ex h
    obtain ⟨j, e2, h⟩ := onSome_ex h
    obtain ⟨_, vs, h1, r1⟩ := rs.own a _ e
    exact ⟨a, vs, k, j, rfl, rfl, h1, by rw [r1.len]; exact e2, fin _ h _ F (rs.write e ⟨_, upd_same, r1.set rv j⟩)⟩
  · exact h.elim
def dgSub (to ti : DTE) (t : DSet) (v : DV) (S : DSt) (O : Own) (Q : DSt → Own → Prop) : Prop := to S O fun o O1 => ti S O1 fun i O2 => t o i v O2 fun O3 => Q S O3
theorem dg_sub {X : Cx} {o i : Expr} {to ti : DTE} {t : DSet} {pos : Pos} (ho : DE X o to) (hi : DE X i ti) (hs : PSetD X t)
    (ha : ∀ v, assign (.Subscript o i pos) X.env v = (do
      let ov ← holding [v] (eval o X.env)
      let iv ← holding [v, ov] (eval i X.env)
      standAt pos
      holding [v, ov, iv] (setItem ov iv v)
      release [v, ov, iv] []) := by intro _; rfl) : DG X (.Subscript o i pos) (dgSub to ti t) := by
  refine ⟨PG_imp (pg_sub ho.pe hi.pe hs.ps ha) ?_⟩
  rintro v σ H VQ ⟨F, O, S, Q, d, rs, sr, r, h, fin⟩
  exact ⟨F, O, S, _, rs, sr, h, fun d1 O1 h1 v1 H1 F1 s1 r1 => ⟨F1, O1, S, _, s1.rs, sr.mono s1.sub, h1, fun d2 O2 h2 v2 H2 F2 s2 r2 =>
    ⟨F2, O2, d1, d2, d, _, s2.rs, r1.mono s2.sub, r2, r.mono (s1.trans s2).sub, h2, fun O3 h3 H3 F3 s3 => fin _ _ h3 _ H3 F3 (s1.trans (s2.trans s3)) (sr.mono (s1.trans (s2.trans s3)).sub)⟩⟩⟩

/-! ### statements -/
def dNext (D : DEnds) (S : DSt) (O : Own) : Prop := D.nx S O
def dSeq (t u : DTS) (D : DEnds) (S : DSt) (O : Own) : Prop := t { D with nx := u D } S O
def dBreak (D : DEnds) (S : DSt) (O : Own) : Prop := D.bk S O
def dCont (D : DEnds) (S : DSt) (O : Own) : Prop := D.ct S O
def dNever (u0_ : DEnds) (u1_ : DSt) (u2_ : Own) : Prop := False
def dDrop (te : DTE) (D : DEnds) (S : DSt) (O : Own) : Prop := te S O fun _ O1 => D.nx S O1
def dRet (te : DTE) (D : DEnds) (S : DSt) (O : Own) : Prop := te S O D.rt
def dRetN (D : DEnds) (u1_ : DSt) (O : Own) : Prop := D.rt .non O
def dIfS (c : DTT) (t u : DTS) (D : DEnds) (S : DSt) (O : Own) : Prop := c S O fun b O1 => if b = true then t D S O1 else u D S O1
def dAsg (te : DTE) (g : DTG) (D : DEnds) (S : DSt) (O : Own) : Prop := te S O fun x O1 => g x S O1 D.nx
def dAug (i : Nat) (te : DTE) (r : DR2) (D : DEnds) (S : DSt) (O : Own) : Prop := onSome (slot S i) fun x => te S O fun y O1 => r x y O1 fun z O2 => D.nx (S.set i (some z)) O2
/-- what is frozen of an owned cell -/
def frzC : Option Cell → (DV → Prop) → Prop
  | some (.lst xs), K => K (.lst xs)
  | some (.dK xs), K => K (.dK xs)
  | some (.dT xs), K => K (.dT xs)
  | _, _ => False
theorem frzC_at {K : PySem.W.Frag} {F H : Hp} {O : Own} {p : Addr} {R : DV → Prop} (rs : RS K F O H) (h : frzC (O p) R) : ∃ d F', R d ∧ Stp K F O H F' (odel O p) H ∧ Rep K F' (.ref p) d := by
  unfold frzC at h
  split at h
  · rename_i xs e
    obtain ⟨F2, s2, r2⟩ := rs.freezeL e
    exact ⟨_, F2, h, s2, r2⟩
  · rename_i xs e
    obtain ⟨F2, s2, r2⟩ := rs.freezeK e
    exact ⟨_, F2, h, s2, r2⟩
  · rename_i xs e
    obtain ⟨F2, s2, r2⟩ := rs.freezeT e
    exact ⟨_, F2, h, s2, r2⟩
  · exact h.elim
def kRef (Q : Addr → Own → Prop) : DV → Own → Prop
  | .ref a, O => Q a O
  | _, _ => False
theorem kRef_ex {Q : Addr → Own → Prop} {d : DV} {O : Own} (h : kRef Q d O) : ∃ a, d = .ref a ∧ Q a O := by
  unfold kRef at h
  split at h
  · exact ⟨_, rfl, h⟩
  · exact h.elim
/-- the owned thing in the i-th slot is frozen ahead -/
def dFrz (i : Nat) (t : DTS) (D : DEnds) (S : DSt) (O : Own) : Prop := onSome (slot S i) fun x => kRef (fun a O => frzC (O a) fun d => t D (S.set i (some d)) (odel O a)) x O
/-- what is given back: an owned list, dict is frozen -/
def dRetF (te : DTE) (D : DEnds) (S : DSt) (O : Own) : Prop := te S O (kRef fun a O1 => frzC (O1 a) fun d => D.rt d (odel O1 a))
section
variable {X : Cx} {st : Stmt} {rest : List Stmt} {t u : DTS} {e : Expr} {te : DTE} {pos : Pos} {g : DTG}
theorem dss_nil : DSs X [] dNext := ⟨PSs_imp pss_nil fun VD σ H ⟨F, O, S, D, rs, sr, h, fin⟩ => fin.nx _ _ h σ H F (.refl rs) sr⟩
theorem dss_cons (h1 : DS X st t) (h2 : DSs X rest u) : DSs X (st :: rest) (dSeq t u) := by
  refine ⟨PSs_imp (pss_cons h1.ps h2.ps) ?_⟩
  rintro VD σ H ⟨F, O, S, D, rs, sr, h, fin⟩
  exact ⟨F, O, S, _, rs, sr, h, ⟨fun S1 O1 h1 σ1 H1 F1 s1 sr1 => ⟨F1, O1, S1, D, s1.rs, sr1, h1, fin.step s1⟩, fin.rt, fin.bk, fin.ct⟩⟩
theorem dss_one (h1 : DS X st t) : DSs X [st] t := ⟨pss_one h1.ps⟩
theorem ds_pass : DS X (.Pass pos) dNext := ⟨PS_imp ps_pass fun VD σ H ⟨F, O, S, D, rs, sr, h, fin⟩ => fin.nx _ _ h σ H F (.refl rs) sr⟩
theorem ds_break : DS X (.Break pos) dBreak := ⟨PS_imp ps_break fun VD σ H ⟨F, O, S, D, rs, sr, h, fin⟩ => fin.bk _ _ h σ H F (.refl rs) sr⟩
theorem ds_continue : DS X (.Continue pos) dCont := ⟨PS_imp ps_continue fun VD σ H ⟨F, O, S, D, rs, sr, h, fin⟩ => fin.ct _ _ h σ H F (.refl rs) sr⟩
theorem ds_never : DS X st dNever := ⟨PS_imp ps_never fun VD σ H ⟨F, O, S, D, rs, sr, h, fin⟩ => h⟩
theorem dss_never : DSs X rest dNever := ⟨PSs_imp pss_never fun VD σ H ⟨F, O, S, D, rs, sr, h, fin⟩ => h⟩
theorem ds_expr (he : DE X e te) (hs : swapsWith e none pos.line X.env = pure false := by rfl) : DS X (.Expr e pos) (dDrop te) := by
  refine ⟨PS_imp (ps_expr he.pe hs) ?_⟩
  rintro VD σ H ⟨F, O, S, D, rs, sr, h, fin⟩
  exact ⟨F, O, S, _, rs, sr, h, fun d O1 h1 v H1 F1 s1 rv => fin.nx _ _ h1 σ H1 F1 s1 (sr.mono s1.sub)⟩
theorem ds_ret (he : DE X e te) : DS X (.Return (some e) pos) (dRet te) := by
  refine ⟨PS_imp (ps_ret he.pe) ?_⟩
  rintro VD σ H ⟨F, O, S, D, rs, sr, h, fin⟩
  exact ⟨F, O, S, _, rs, sr, h, fin.rt⟩
theorem ds_retF (he : DE X e te) : DS X (.Return (some e) pos) (dRetF te) := by
  refine ⟨PS_imp (ps_ret he.pe) ?_⟩
  rintro VD σ H ⟨F, O, S, D, rs, sr, h, fin⟩
  refine ⟨F, O, S, _, rs, sr, h, fun d O1 h1 v H1 F1 s1 rv => ?_⟩
  obtain ⟨a, rfl, h1⟩ := kRef_ex h1
  cases rv
  obtain ⟨d, F2, h2, s2, r2⟩ := frzC_at s1.rs h1
  exact fin.rt _ _ h2 _ H1 F2 (s1.trans s2) r2
theorem ds_retN : DS X (.Return none pos) dRetN := ⟨PS_imp ps_retN fun VD σ H ⟨F, O, S, D, rs, sr, h, fin⟩ => fin.rt _ _ h _ H F (.refl rs) .non⟩
theorem SR.put {K : PySem.W.Frag} {F : Hp} {σ : L2.St} {S : DSt} {v : V} {d : DV} (h : SR K F σ S) (i : Nat) (e : σ[i]? = some (some v)) (r : Rep K F v d) : SR K F σ (S.set i (some d)) := by
  refine ⟨by simp [h.1], fun j f q => ?_⟩
  by_cases hj : j = i
  · subst hj
    have hl : j < S.length := by
      have := (List.getElem?_eq_some_iff.mp q).1
      simpa using this
    rw [List.getElem?_set_self hl] at q
    cases q
    exact ⟨v, e, r⟩
  · rw [List.getElem?_set_ne (Ne.symm hj)] at q
    exact h.2 j f q
theorem ds_frz (i : Nat) (h : DS X st t) : DS X st (dFrz i t) := by
  refine ⟨PS_imp h.ps ?_⟩
  rintro VD σ H ⟨F, O, S, D, rs, sr, h, fin⟩
  obtain ⟨x, e, h⟩ := onSome_ex h
  obtain ⟨a, rfl, h⟩ := kRef_ex h
  obtain ⟨v, h1, r1⟩ := sr.2 i _ (slot_get e)
  cases r1
  obtain ⟨d, F2, h2, s2, r2⟩ := frzC_at rs h
  exact ⟨F2, _, _, D, s2.rs, SR.put (sr.mono s2.sub) i h1 r2, h2, fin.step s2⟩
theorem ds_if {c : Expr} {a b : List Stmt} {tc : DTT} (hc : DT X c tc) (ha : DSs X a t) (hb : DSs X b u) : DS X (.If c a b pos) (dIfS tc t u) := by
  refine ⟨PS_imp (ps_if hc.pt ha.ps hb.ps) ?_⟩
  rintro VD σ H ⟨F, O, S, D, rs, sr, h, fin⟩
  refine ⟨F, O, S, _, rs, sr, h, fun c O1 h1 H1 F1 s1 => ?_⟩
  dsimp only at h1 ⊢
  split
  · rename_i e; rw [if_pos e] at h1
    exact ⟨F1, O1, S, D, s1.rs, sr.mono s1.sub, h1, fin.step s1⟩
  · rename_i e; rw [if_neg e] at h1
    exact ⟨F1, O1, S, D, s1.rs, sr.mono s1.sub, h1, fin.step s1⟩
theorem ds_set (i : Nat) {x : Str} {pos' : Pos} (he : DE X e te) (hN : X.N.Nodup) (hi : X.N[i]? = some x := by rfl) (hx : Loc X.env.scope x := by first | exact Or.inl rfl | exact Or.inr rfl) (hs : swapsWith e (some (.Name x pos')) pos.line X.env = pure false := by rfl)
    (hf : X.fn x = true ∨ X.env.scope.names.lookup x = some .local := by first | exact .inl rfl | exact .inr rfl) : DS X (.Assign [.Name x pos'] e pos) (dAsg te (dgName i)) := by
  refine ⟨PS_imp (ps_set hN hi hx he.pe hs hf) ?_⟩
  rintro VD σ H ⟨F, O, S, D, rs, sr, h, fin⟩
  exact ⟨F, O, S, _, rs, sr, h, fun d O1 h1 v H1 F1 s1 rv => fin.nx _ _ h1 _ H1 F1 s1 ((sr.mono s1.sub).set i rv)⟩
theorem ds_asg {tg : Expr} (he : DE X e te) (hg : DG X tg g) (hs : swapsWithSole [tg] e pos.line X.env = pure false := by rfl) (hw : swappedStores [tg] e X.env = pure none := by rfl)
    (h1 : (assignEach [tg] X.env).map (·.2) = [assign tg X.env] := by rfl) : DS X (.Assign [tg] e pos) (dAsg te g) := by
  refine ⟨PS_imp (ps_asg he.pe hg.pg hs hw h1) ?_⟩
  rintro VD σ H ⟨F, O, S, D, rs, sr, h, fin⟩
  exact ⟨F, O, S, _, rs, sr, h, fun d O1 h1 v H1 F1 s1 rv => ⟨F1, O1, S, _, d, s1.rs, sr.mono s1.sub, rv, h1, fin.nx.step s1⟩⟩
def kPar (i j : Nat) (nx : DSt → Own → Prop) (S : DSt) : List DV → Own → Prop
  | [v, w], O1 => nx ((S.set i (some v)).set j (some w)) O1
  | _, _ => False
theorem kPar_e1 {i j : Nat} {nx : DSt → Own → Prop} {S : DSt} {v w : DV} {O : Own} : kPar i j nx S [v, w] O = nx ((S.set i (some v)).set j (some w)) O := rfl
def dPar (i j : Nat) (ta : DTA) (D : DEnds) (S : DSt) (O : Own) : Prop := ta S O (kPar i j D.nx S)
/-- a, b = x, y with plain local names -/
theorem ds_par (i j : Nat) {x y : Str} {a b : Expr} {ta : DTA} {px py pt : Pos} {kt k2 pt2} (hN : X.N.Nodup) (ha : DA X [a, b] ta) (hc : X.calm = true := by rfl) (hi : X.N[i]? = some x := by rfl) (hj : X.N[j]? = some y := by rfl) (hij : i ≠ j := by decide)
    (hx : X.env.scope.names.lookup x = some .local := by rfl) (hy : X.env.scope.names.lookup y = some .local := by rfl)
    (hw : swappedStores [.Tuple [.Name x px, .Name y py] kt pt] (.Tuple [a, b] k2 pt2) X.env = pure (some [x, y]) := by rfl)
    (hs : swapsWithSole [.Tuple [.Name x px, .Name y py] kt pt] (.Tuple [a, b] k2 pt2) pos.line X.env = pure false := by rfl) :
    DS X (.Assign [.Tuple [.Name x px, .Name y py] kt pt] (.Tuple [a, b] k2 pt2) pos) (dPar i j ta) := by
  refine ⟨PS_imp (ps_par hc hN hi hj hij hx hy ha.pa hw hs) ?_⟩
  rintro VD σ H ⟨F, O, S, D, rs, sr, h, fin⟩
  refine ⟨F, O, S, _, rs, sr, h, fun ds O1 h1 vs H1 F1 s1 r1 => ?_⟩
  unfold kPar at h1
  split at h1
  · cases r1 with
    | cons ra r1 =>
      cases r1 with
      | cons rb r1 =>
        cases r1
        exact ⟨_, _, rfl, fin.nx _ _ h1 _ H1 F1 s1 (((sr.mono s1.sub).set i ra).set j rb)⟩
  · exact h1.elim
theorem ds_aug (i : Nat) {x : Str} {op : Operator} {r : DR2} {pos' : Pos} (ho : OpD X (inplaceOp op) r) (he : DE X e te) (hN : X.N.Nodup) (hi : X.N[i]? = some x := by rfl) (hx : Loc X.env.scope x := by first | exact Or.inl rfl | exact Or.inr rfl)
    (hf : X.fn x = true ∨ X.env.scope.names.lookup x = some .local := by first | exact .inl rfl | exact .inr rfl) : DS X (.AugAssign (.Name x pos') op e pos) (dAug i te r) := by
  refine ⟨PS_imp (ps_aug hN hi hx he.pe ho.op hf) ?_⟩
  rintro VD σ H ⟨F, O, S, D, rs, sr, h, fin⟩
  obtain ⟨d, e, h⟩ := onSome_ex h
  obtain ⟨v, h1, r1⟩ := sr.2 i d (slot_get e)
  exact ⟨v, h1, F, O, S, _, rs, sr, h, fun d2 O2 h2 v2 H2 F2 s2 r2 => ⟨F2, O2, d, d2, _, s2.rs, r1.mono s2.sub, r2, h2, fun d3 O3 h3 v3 H3 F3 s3 r3 => fin.nx _ _ h3 _ H3 F3 (s2.trans s3) ((sr.mono (s2.trans s3).sub).set i r3)⟩⟩
end
def dIAdd : DV → DV → Own → DVK → Prop
  | .int i, .int j, O, Q => Q (.int (i + j)) O
  | .str a, .str b, O, Q => a.length + b.length ≤ sizeLine ∧ Q (.str (a ++ b)) O
  | _, _, _, _ => False
theorem od_iadd {X : Cx} : OpD X (inplaceOp .Add) dIAdd := by
  refine ⟨OpR_imp (iop_add.or iop_add_str) ?_⟩
  rintro x y H VQ ⟨F, O, dx, dy, Q, rs, rx, ry, h, fin⟩
  unfold dIAdd at h
  split at h
  · cases rx; cases ry
    exact .inl ⟨_, _, rfl, rfl, fin _ _ h _ _ F (.refl rs) (.int _)⟩
  · cases rx; cases ry
    exact .inr ⟨_, _, rfl, rfl, h.1, fin _ _ h.2 _ _ F (.refl rs) (.str _)⟩
  · exact h.elim
def dISub : DV → DV → Own → DVK → Prop
  | .int i, .int j, O, Q => Q (.int (i - j)) O
  | _, _, _, _ => False
theorem od_isub {X : Cx} : OpD X (inplaceOp .Sub) dISub := by
  refine ⟨OpR_imp iop_sub ?_⟩
  rintro x y H VQ ⟨F, O, dx, dy, Q, rs, rx, ry, h, fin⟩
  unfold dISub at h
  split at h
  · cases rx; cases ry
    exact ⟨_, _, rfl, rfl, fin _ _ h _ _ F (.refl rs) (.int _)⟩
  · exact h.elim

/-! ### while -/
def whileW (c : DTT) (tb : DTS) (D : DEnds) : Nat → DSt → Own → Prop
  | 0, _, _ => False
  | n + 1, S, O => c S O fun b O1 => if b = true then tb { D with nx := whileW c tb D n, ct := whileW c tb D n, bk := D.nx } S O1 else D.nx S O1
def dWhile (c : DTT) (tb : DTS) (D : DEnds) (S : DSt) (O : Own) : Prop := ∃ n, whileW c tb D n S O
theorem ds_while {X : Cx} {c : Expr} {body : List Stmt} {tc : DTT} {tb : DTS} {pos : Pos} (hp : PassesOwn (model X.prog X.w) X.A X.env X.xe) (hc : DT X c tc) (hb : DSs X body tb) : DS X (.While c body [] pos) (dWhile tc tb) := by
  refine ⟨PS_imp (ps_while hp hc.pt hb.ps) ?_⟩
  rintro VD σ H ⟨F, O, S, D, rs, sr, ⟨n, h⟩, fin⟩
  refine ⟨fun m σ' H' => ∃ F' O' S', Stp X.K F O H F' O' H' ∧ SR X.K F' σ' S' ∧ whileW tc tb D m S' O', ⟨n, F, O, S, .refl rs, sr, h⟩, ?_⟩
  rintro m σ' H' ⟨F', O', S', s', sr', h'⟩
  cases m with
  | zero => exact h'.elim
  | succ m =>
    refine ⟨F', O', S', _, s'.rs, sr', h', fun b O1 h1 H1 F1 s1 => ?_⟩
    dsimp only at h1 ⊢
    split
    · rename_i e; rw [if_pos e] at h1
      refine ⟨fun σ2 H2 => ∃ F2 O2 S2, Stp X.K F O H F2 O2 H2 ∧ SR X.K F2 σ2 S2 ∧ whileW tc tb D m S2 O2, fun σ2 H2 q => ⟨m, Nat.lt_succ_self m, q⟩, F1, O1, S', _, s1.rs, sr'.mono s1.sub, h1, ?_⟩
      have st := s'.trans s1
      refine ⟨fun S2 O2 h2 σ2 H2 F2 s2 sr2 => ⟨F2, O2, S2, st.trans s2, sr2, h2⟩, fin.rt.step st, fin.nx.step st, fun S2 O2 h2 σ2 H2 F2 s2 sr2 => ⟨F2, O2, S2, st.trans s2, sr2, h2⟩⟩
    · rename_i e; rw [if_neg e] at h1
      exact fin.nx _ _ h1 _ H1 F1 (s'.trans s1) (sr'.mono s1.sub)

/-! ### for -/
def forW (g : DTG) (tb : DTS) (D : DEnds) : List DV → DSt → Own → Prop
  | [], S, O => D.nx S O
  | x :: r, S, O => g x S O fun S2 O2 => tb { D with nx := forW g tb D r, ct := forW g tb D r, bk := D.nx } S2 O2
def dFor (di : DTI) (g : DTG) (tb : DTS) (D : DEnds) (S : DSt) (O : Own) : Prop := di S O fun ds O1 => forW g tb D ds S O1
theorem ds_for {X : Cx} {tg iter : Expr} {body : List Stmt} {di : DTI} {g : DTG} {tb : DTS} {pos : Pos} (hp : PassesOwn (model X.prog X.w) X.A X.env X.xe) (hc : X.calm = true) (hi : DI X tg iter di) (hg : DG X tg g) (hb : DSs X body tb)
    (hs : ∀ x, foldedSetIterable iter X.env x = pure x := by intro _; rfl) : DS X (.For tg iter body [] pos) (dFor di g tb) := by
  refine ⟨PS_imp (ps_for hp hc hi.pi hg.pg hb.ps hs) ?_⟩
  rintro VD σ H ⟨F, O, S, D, rs, sr, h, fin⟩
  refine ⟨F, O, S, _, rs, sr, h, fun ds O1 h1 J H1 F1 s1 y => ?_⟩
  refine ⟨fun i m σ' H' => m = ds.length - i ∧ ∃ F' O' S', Stp X.K F1 O1 H1 F' O' H' ∧ SR X.K F' σ' S' ∧ forW g tb D (ds.drop i) S' O', ⟨_, rfl, F1, O1, S, .refl s1.rs, sr.mono s1.sub, h1⟩, ?_⟩
  rintro i m σ' H' ⟨em, F', O', S', s', sr', h'⟩
  obtain ⟨y1, y2⟩ := y i O' H' F' s'.sub s'.rs
  by_cases hi : i < ds.length
  · have e0 : ds[i]? = some ds[i] := List.getElem?_eq_getElem hi
    rw [List.drop_eq_getElem_cons hi] at h'
    obtain ⟨hg, hy⟩ := y1 _ e0
    refine .inr ⟨hg, fun σ2 H2 => ∃ F2 O2 S2, Stp X.K F1 O1 H1 F2 O2 H2 ∧ SR X.K F2 σ2 S2 ∧ forW g tb D (ds.drop (i + 1)) S2 O2, fun σ2 H2 q => ⟨_, ?_, rfl, q⟩, fun x H2 q => ?_⟩
    · omega
    · obtain ⟨F3, s3, r3⟩ := hy x H2 q
      refine ⟨F3, O', S', _, _, s3.rs, sr'.mono s3.sub, r3, h', fun S4 O4 h4 σ4 H4 F4 s4 sr4 => ⟨F4, O4, S4, _, s4.rs, sr4, h4, ?_⟩⟩
      have st := s'.trans (s3.trans s4)
      refine ⟨fun S2 O2 h2 σ2 H2 F2 s2 sr2 => ⟨F2, O2, S2, st.trans s2, sr2, h2⟩, (fin.step s1).rt.step st, (fin.step s1).nx.step st, fun S2 O2 h2 σ2 H2 F2 s2 sr2 => ⟨F2, O2, S2, st.trans s2, sr2, h2⟩⟩
  · rw [List.drop_eq_nil_of_le (by omega)] at h'
    exact .inl ⟨y2 (by omega), fin.nx _ _ h' _ H' F' (s1.trans s') sr'⟩
/-- a while by a word over parameters x : α (the slots f x, the owned things o x) -/
theorem dWhile_by {c : DTT} {tb : DTS} {D : DEnds} {S : DSt} {O : Own} {α : Type} (f : α → DSt) (o : α → Own) (I : α → Prop) (μ : α → Nat) (x0 : α) (hS : f x0 = S) (hO : o x0 = O) (h0 : I x0)
    (step : ∀ (x : α) (nx : DSt → Own → Prop), I x → (∀ y, I y → μ y < μ x → nx (f y) (o y)) → c (f x) (o x) fun b O1 => if b = true then tb { D with nx := nx, ct := nx, bk := D.nx } (f x) O1 else D.nx (f x) O1) : dWhile c tb D S O := by
  have key : ∀ (n : Nat) (x : α), μ x < n → I x → whileW c tb D n (f x) (o x) := by
    intro n
    induction n with
    | zero => intro x h; omega
    | succ n ih => intro x h hI; exact step x _ hI fun y hy hm => ih y (by omega) hy
  subst hS; subst hO
  exact ⟨_, key (μ x0 + 1) x0 (Nat.lt_succ_self _) h0⟩
/-- a for by a word -/
theorem forW_by {g : DTG} {tb : DTS} {D : DEnds} {α : Type} (f : α → DSt) (o : α → Own) (ds : List DV) (I : Nat → α → Prop)
    (step : ∀ (i : Nat) (x : α) (d : DV) (nx : DSt → Own → Prop), ds[i]? = some d → I i x → (∀ y, I (i + 1) y → nx (f y) (o y)) → g d (f x) (o x) fun S2 O2 => tb { D with nx := nx, ct := nx, bk := D.nx } S2 O2)
    (done : ∀ x, I ds.length x → D.nx (f x) (o x)) (x0 : α) {S : DSt} {O : Own} (hS : f x0 = S) (hO : o x0 = O) (h0 : I 0 x0) : forW g tb D ds S O := by
  have key : ∀ (n i : Nat) (x : α), i + n = ds.length → I i x → forW g tb D (ds.drop i) (f x) (o x) := by
    intro n
    induction n with
    | zero =>
      intro i x h hI
      rw [List.drop_eq_nil_of_le (by omega)]
      have : i = ds.length := by omega
      subst this
      exact done x hI
    | succ n ih =>
      intro i x h hI
      have hi : i < ds.length := by omega
      rw [List.drop_eq_getElem_cons hi]
      exact step i x _ _ (List.getElem?_eq_getElem hi) hI fun y hy => ih (i + 1) y (by omega) hy
  subst hS; subst hO
  exact key ds.length 0 x0 (by omega) h0
end DL

set_option Elab.async false
set_option linter.all false
set_option maxRecDepth 100000
/-! DComp: what is walked, comprehensions, calls of defs, over data. -/
namespace DL
open PySem PySem.Spec PyProof.Rows L2 TL

/-! ### what is walked -/
theorem yields_lst {K : PySem.W.Frag} {F : Hp} {a : Addr} {vs : List V} {ds : List DV} (h : ∀ (O : Own) (H F2 : Hp), Sub F F2 → RS K F2 O H → SqL K H a vs)  (r : Reps K F vs ds) : Yields K F (Itl K a) ds := by
  intro i O H F2 s rs
  have h0 := h O H F2 s rs
  refine ⟨fun d e => ?_, fun e => ⟨vs, h0, by rw [r.len]; exact e⟩⟩
  obtain ⟨v, h1, h2⟩ := r.get e
  refine ⟨⟨vs, v, h0, h1⟩, fun x H' ⟨q1, q2⟩ => ?_⟩
  subst q1
  have := q2 vs h0
  rw [h1] at this; cases this
  exact ⟨F2, .refl rs, h2.mono s⟩
def kLst (Q : List DV → Own → Prop) : DV → Own → Prop
  | .lst xs, O' => Q xs O'
  | .slst xs, O' => Q xs O'
  | _, _ => False
def kTup (Q : List DV → Own → Prop) : DV → Own → Prop
  | .tup xs, O' => Q xs O'
  | .stup xs, O' => Q xs O'
  | _, _ => False
def kStr (Q : Str → Own → Prop) : DV → Own → Prop
  | .str x, O' => Q x O'
  | _, _ => False
def kRng1 (Q : List DV → Own → Prop) : List DV → Own → Prop
  | [.int j], O' => (-(2 ^ 62) ≤ j ∧ j < 2 ^ 62) ∧ Q ((List.range j.toNat).map fun (k : Nat) => .int (k : Int)) O'
  | _, _ => False
def kRng2 (Q : List DV → Own → Prop) : List DV → Own → Prop
  | [.int i, .int j], O' => (-(2 ^ 62) ≤ i ∧ i < 2 ^ 62 ∧ -(2 ^ 62) ≤ j ∧ j < 2 ^ 62) ∧ Q ((List.range (j - i).toNat).map fun (k : Nat) => .int (i + (k : Int))) O'
  | _, _ => False
def dILst (t : DTE) (S : DSt) (O : Own) (Q : List DV → Own → Prop) : Prop := t S O (kLst Q)
def dITup (t : DTE) (S : DSt) (O : Own) (Q : List DV → Own → Prop) : Prop := t S O (kTup Q)
def dIStr (t : DTE) (S : DSt) (O : Own) (Q : List DV → Own → Prop) : Prop := t S O (kStr fun x O' => Q ((tl x).map fun c => .str ⟨#[c]⟩) O')
def dIRng1 (t : DTA) (S : DSt) (O : Own) (Q : List DV → Own → Prop) : Prop := t S O (kRng1 Q)
def dIRng2 (t : DTA) (S : DSt) (O : Own) (Q : List DV → Own → Prop) : Prop := t S O (kRng2 Q)
def enumD : Nat → List DV → List DV
  | _, [] => []
  | n, x :: r => .tup [.int (n : Int), x] :: enumD (n + 1) r
theorem enumD_get : ∀ {xs : List DV} {n i : Nat}, (enumD n xs)[i]? = (xs[i]?).map fun x => .tup [.int ((n + i : Nat) : Int), x]
  | [], _, _ => by simp [enumD]
  | x :: r, n, 0 => by simp [enumD]
  | x :: r, n, i + 1 => by
    have := enumD_get (xs := r) (n := n + 1) (i := i)
    simp only [enumD, List.getElem?_cons_succ, this]
    rw [Nat.add_right_comm n 1 i]; rfl
theorem enumD_len : ∀ {xs : List DV} {n : Nat}, (enumD n xs).length = xs.length
  | [], _ => rfl
  | x :: r, n => by simp [enumD, enumD_len (xs := r)]
def kEnum (Q : List DV → Own → Prop) : List DV → Own → Prop
  | [.lst xs], O' => Q (enumD 0 xs) O'
  | [.slst xs], O' => Q (enumD 0 xs) O'
  | _, _ => False
def dIEnum (t : DTA) (S : DSt) (O : Own) (Q : List DV → Own → Prop) : Prop := t S O (kEnum Q)
def zipD : List DV → List DV → List DV
  | x :: r, y :: q => .tup [x, y] :: zipD r q
  | _, _ => []
theorem zipD_get : ∀ {xs ys : List DV} {i : Nat} {d : DV}, (zipD xs ys)[i]? = some d → ∃ x y, xs[i]? = some x ∧ ys[i]? = some y ∧ d = .tup [x, y]
  | x :: r, y :: q, 0, d, h => by simp [zipD] at h; exact ⟨x, y, rfl, rfl, h.symm⟩
  | x :: r, y :: q, i + 1, d, h => by
    simp only [zipD, List.getElem?_cons_succ] at h
    simpa using zipD_get (xs := r) (ys := q) h
  | [], _, _, _, h => by simp [zipD] at h
  | _ :: _, [], _, _, h => by simp [zipD] at h
theorem zipD_len : ∀ {xs ys : List DV}, (zipD xs ys).length = min xs.length ys.length
  | x :: r, y :: q => by simp [zipD, zipD_len (xs := r) (ys := q)]
  | [], _ => by simp [zipD]
  | _ :: _, [] => by simp [zipD]
def kZip (Q : List DV → Own → Prop) : List DV → Own → Prop
  | [.lst xs, .lst ys], O' => Q (zipD xs ys) O'
  | _, _ => False
def dIZip (t : DTA) (S : DSt) (O : Own) (Q : List DV → Own → Prop) : Prop := t S O (kZip Q)
section
variable {X : Cx} {tg e e2 : Expr} {te : DTE} {ta : DTA} {p pos tpos : Pos}
theorem di_list (h : DE X e te) : DI X tg e (dILst te) := by
  refine ⟨PI_imp (pi_list h.pe) ?_⟩
  rintro σ H R ⟨F, O, S, Q, rs, sr, h, fin⟩
  refine ⟨F, O, S, _, rs, sr, h, fun d O1 h1 v H1 F1 s1 rv => ?_⟩
  cases rv with
  | @lst a vs ds e r => exact ⟨a, rfl, ⟨vs, SqL.of (s1.rs.lst e)⟩, fin _ _ h1 _ H1 F1 s1 (yields_lst (vs := vs) (fun O H F2 s rs => SqL.of (rs.lst (s _ _ e))) r)⟩
  | @slst a vs ds e r => exact ⟨a, rfl, ⟨vs, s1.rs.sqL e⟩, fin _ _ h1 _ H1 F1 s1 (yields_lst (vs := vs) (fun O H F2 s rs => rs.sqL (SqL.sub s e)) r)⟩
  | _ => exact h1.elim
theorem di_tup (h : DE X e te) : DI X tg e (dITup te) := by
  refine ⟨PI_imp (pi_tup h.pe) ?_⟩
  rintro σ H R ⟨F, O, S, Q, rs, sr, h, fin⟩
  refine ⟨F, O, S, _, rs, sr, h, fun d O1 h1 v H1 F1 s1 rv => ?_⟩
  cases rv with
  | @tup a vs ds e r =>
    refine ⟨a, rfl, ⟨vs, SqT.of (s1.rs.tup e)⟩, fin _ _ h1 _ H1 F1 s1 ?_⟩
    intro i O H F2 s rs
    have h0 := SqT.of (K := X.K) (rs.tup (s _ _ e))
    refine ⟨fun d e => ?_, fun e => ⟨vs, h0, by rw [r.len]; exact e⟩⟩
    obtain ⟨v, h1, h2⟩ := r.get e
    refine ⟨⟨vs, v, h0, h1⟩, fun x H' ⟨q1, q2⟩ => ?_⟩
    subst q1
    have := q2 vs h0
    rw [h1] at this; cases this
    exact ⟨F2, .refl rs, h2.mono s⟩
  | @stup a vs ds e r =>
    refine ⟨a, rfl, ⟨vs, s1.rs.sqT e⟩, fin _ _ h1 _ H1 F1 s1 ?_⟩
    intro i O H F2 s rs
    have h0 := rs.sqT (SqT.sub s e)
    refine ⟨fun d e => ?_, fun e => ⟨vs, h0, by rw [r.len]; exact e⟩⟩
    obtain ⟨v, h1, h2⟩ := r.get e
    refine ⟨⟨vs, v, h0, h1⟩, fun x H' ⟨q1, q2⟩ => ?_⟩
    subst q1
    have := q2 vs h0
    rw [h1] at this; cases this
    exact ⟨F2, .refl rs, h2.mono s⟩
  | _ => exact h1.elim
theorem di_str (h : DE X e te) : DI X tg e (dIStr te) := by
  refine ⟨PI_imp (pi_str h.pe) ?_⟩
  rintro σ H R ⟨F, O, S, Q, rs, sr, h, fin⟩
  refine ⟨F, O, S, _, rs, sr, h, fun d O1 h1 v H1 F1 s1 rv => ?_⟩
  cases rv with
  | str z =>
    refine ⟨z, rfl, fin _ _ h1 _ H1 F1 s1 ?_⟩
    intro i O H F2 s rs
    have hl : (tl z).length = z.cps.size := by simp [TL.tl]
    refine ⟨fun d e => ?_, fun e => by show z.cps.size ≤ i; simpa [hl] using e⟩
    rw [List.getElem?_map] at e
    have hi : i < (tl z).length := by
      rcases Nat.lt_or_ge i (tl z).length with q | q
      · exact q
      · rw [List.getElem?_eq_none q] at e; cases e
    refine ⟨by show i < z.cps.size; omega, fun x H' ⟨q1, c, q2, q3⟩ => ?_⟩
    subst q1; subst q3
    have q4 : (tl z)[i]? = some c := by simpa [TL.tl] using q2
    rw [q4] at e; cases e
    exact ⟨F2, .refl rs, .str _⟩
  | _ => exact h1.elim
theorem yields_rng {K : PySem.W.Frag} {F : Hp} (lo : Int) (n : Nat) : Yields K F (Itr lo n) ((List.range n).map fun (k : Nat) => .int (lo + (k : Int))) := by
  intro i O H F2 s rs
  refine ⟨fun d e => ?_, fun e => by show n ≤ i; simpa using e⟩
  rw [List.getElem?_map] at e
  have hi : i < n := by
    rcases Nat.lt_or_ge i n with q | q
    · exact q
    · rw [List.getElem?_eq_none (by simpa using q)] at e; cases e
  rw [List.getElem?_range hi] at e
  cases e
  exact ⟨hi, fun x H' ⟨q1, q2⟩ => by subst q1; subst q2; exact ⟨F2, .refl rs, .int _⟩⟩
theorem di_range1 (hm : X.mg "range" = none) (ha : DA X [e] ta) (hg : Gl X "range" := by rfl) (hs : starEach [e] X.env = [(false, eval e X.env)] := by rfl) : DI X tg (.Call (.Name "range" p) [e] [] pos) (dIRng1 ta) := by
  refine ⟨PI_imp (pi_range1 hg hm ha.pa hs) ?_⟩
  rintro σ H R ⟨F, O, S, Q, rs, sr, h, fin⟩
  refine ⟨F, O, S, _, rs, sr, h, fun ds O1 h1 vs H1 F1 s1 rr => ?_⟩
  unfold kRng1 at h1
  split at h1
  · rename_i j
    obtain ⟨v, rfl, r⟩ := rr.one
    cases r
    refine ⟨j, rfl, h1.1.1, h1.1.2, fin _ _ h1.2 _ H1 F1 s1 ?_⟩
    have := yields_rng (K := X.K) (F := F1) 0 j.toNat
    simpa using this
  · exact h1.elim
theorem di_range2 (hm : X.mg "range" = none) (ha : DA X [e, e2] ta) (hg : Gl X "range" := by rfl) (hs : starEach [e, e2] X.env = [(false, eval e X.env), (false, eval e2 X.env)] := by rfl) (hs2 : starEach [e2] X.env = [(false, eval e2 X.env)] := by rfl) : DI X tg (.Call (.Name "range" p) [e, e2] [] pos) (dIRng2 ta) := by
  refine ⟨PI_imp (pi_range2 hg hm ha.pa hs hs2) ?_⟩
  rintro σ H R ⟨F, O, S, Q, rs, sr, h, fin⟩
  refine ⟨F, O, S, _, rs, sr, h, fun ds O1 h1 vs H1 F1 s1 rr => ?_⟩
  unfold kRng2 at h1
  split at h1
  · rename_i i j
    obtain ⟨v, w, rfl, r, r2⟩ := rr.two
    cases r; cases r2
    exact ⟨i, j, rfl, h1.1, fin _ _ h1.2 _ H1 F1 s1 (yields_rng i (j - i).toNat)⟩
  · exact h1.elim
theorem yields_enum {K : PySem.W.Frag} {F : Hp} {a : Addr} {vs : List V} {ds : List DV} (h : ∀ (O : Own) (H F2 : Hp), Sub F F2 → RS K F2 O H → SqL K H a vs) (r : Reps K F vs ds) : Yields K F (Ite K a) (enumD 0 ds) := by
  intro i O H F2 s rs
  have h0 := h O H F2 s rs
  refine ⟨fun d e => ?_, fun e => ⟨vs, h0, by rw [r.len]; rw [enumD_len] at e; exact e⟩⟩
  rw [enumD_get] at e
  cases e1 : ds[i]? with
  | none => rw [e1] at e; cases e
  | some d0 =>
    rw [e1] at e; cases e
    obtain ⟨v, h1, h2⟩ := r.get e1
    refine ⟨⟨vs, v, h0, h1⟩, fun x H' ⟨T, y, q1, q2, q3, q4⟩ => ?_⟩
    subst q1; subst q3
    have := q4 vs h0
    rw [h1] at this; cases this
    have st := rs.new q2 (.tup [.int (i : Nat), v])
    exact ⟨_, st, .tup upd_same (by rw [Nat.zero_add]; exact .cons (.int _) (.cons ((h2.mono s).mono st.sub) .nil))⟩
theorem di_enum {elts : List Expr} {kk : Nat} (hm : X.mg "enumerate" = none) (ha : DA X [e] ta) (hg : Gl X "enumerate" := by rfl) (hs : starEach [e] X.env = [(false, eval e X.env)] := by rfl) : DI X (.Tuple elts kk tpos) (.Call (.Name "enumerate" p) [e] [] pos) (dIEnum ta) := by
  refine ⟨PI_imp (pi_enum hg hm ha.pa hs) ?_⟩
  rintro σ H R ⟨F, O, S, Q, rs, sr, h, fin⟩
  refine ⟨F, O, S, _, rs, sr, h, fun ds O1 h1 vs H1 F1 s1 rr => ?_⟩
  unfold kEnum at h1
  split at h1
  · obtain ⟨v, rfl, r⟩ := rr.one
    cases r with
    | @lst a vs ds e r => exact ⟨a, vs, rfl, SqL.of (s1.rs.lst e), fin _ _ h1 _ H1 F1 s1 (yields_enum (vs := vs) (fun O H F2 s rs => SqL.of (rs.lst (s _ _ e))) r)⟩
  · obtain ⟨v, rfl, r⟩ := rr.one
    cases r with
    | @slst a vs ds e r => exact ⟨a, vs, rfl, s1.rs.sqL e, fin _ _ h1 _ H1 F1 s1 (yields_enum (vs := vs) (fun O H F2 s rs => rs.sqL (SqL.sub s e)) r)⟩
  · exact h1.elim
end

/-! ### comprehensions -/
def dwipe (S : DSt) : List Nat → DSt
  | [] => S
  | v :: vs => (dwipe S vs).set v none
theorem SR.none {K : PySem.W.Frag} {F : Hp} {σ : L2.St} {S : DSt} (h : SR K F σ S) (i : Nat) : SR K F (σ.set i none) (S.set i none) := by
  refine ⟨by simp [h.1], fun j e q => ?_⟩
  by_cases hj : j = i
  · subst hj
    have hl : j < S.length := by
      have := (List.getElem?_eq_some_iff.mp q).1
      simpa using this
    rw [List.getElem?_set_self hl] at q
    cases q
  · rw [List.getElem?_set_ne (Ne.symm hj)] at q ⊢
    exact h.2 j e q
theorem SR.wipe {K : PySem.W.Frag} {F : Hp} {σ : L2.St} {S : DSt} (h : SR K F σ S) : ∀ vs : List Nat, SR K F (L2.wipe σ vs) (dwipe S vs)
  | [] => h
  | v :: vs => (SR.wipe h vs).none v
theorem wipe_set {σ : L2.St} {i : Nat} {x : Option V} : ∀ {vs : List Nat}, i ∈ vs → L2.wipe (σ.set i x) vs = L2.wipe σ vs
  | [], h => absurd h (by simp)
  | v :: vs, h => by
    show (L2.wipe (σ.set i x) vs).set v _ = (L2.wipe σ vs).set v _
    by_cases hv : i ∈ vs
    · rw [wipe_set hv]
    · have e : i = v := by
        rcases List.mem_cons.mp h with e | e
        · exact e
        · exact absurd e hv
      subst e
      have : ∀ (us : List Nat), i ∉ us → L2.wipe (σ.set i x) us = (L2.wipe σ us).set i x := by
        intro us
        induction us with
        | nil => intro _; rfl
        | cons u us ih =>
          intro hu
          have h1 : i ∉ us := fun z => hu (List.mem_cons_of_mem _ z)
          have h2 : i ≠ u := fun z => hu (by simp [z])
          show (L2.wipe (σ.set i x) us).set u _ = ((L2.wipe σ us).set u _).set i x
          rw [ih h1, List.set_comm _ _ h2]
      rw [this vs hv, List.set_set]
theorem wipe_wipe {σ : L2.St} {ws : List Nat} : ∀ {vs : List Nat}, (∀ v ∈ vs, v ∈ ws) → L2.wipe (L2.wipe σ vs) ws = L2.wipe σ ws
  | [], _ => rfl
  | v :: vs, h => by
    show L2.wipe ((L2.wipe σ vs).set v _) ws = _
    rw [wipe_set (h v List.mem_cons_self)]
    exact wipe_wipe fun u hu => h u (List.mem_cons_of_mem _ hu)
/-- a comprehension's target -/
structure TgtOk (K : PySem.W.Frag) (g : TG) (b : DV → DSt → Option DSt) (vs : List Nat) : Prop where
  ok : ∀ {F : Hp} {O : Own} {H : Hp} {v : V} {d : DV} {σ : L2.St} {S S2 : DSt} {Q : L2.St → Hp → Prop}, RS K F O H → Rep K F v d → SR K F σ S → b d S = some S2 → (∀ σ2, SR K F σ2 S2 → L2.wipe σ2 vs = L2.wipe σ vs → Q σ2 H) → g v σ H Q
def bind1 (i : Nat) : DV → DSt → Option DSt := fun d S => some (S.set i (some d))
theorem tgt_1 {K : PySem.W.Frag} {i : Nat} {vs : List Nat} (hi : i ∈ vs) : TgtOk K (gName i) (bind1 i) vs :=
  ⟨fun rs r sr e h => by cases e; exact h _ (sr.set i r) (wipe_set hi)⟩
def setAll : DSt → List Nat → List DV → Option DSt
  | S, [], [] => some S
  | S, i :: is, d :: ds => setAll (S.set i (some d)) is ds
  | _, _, _ => none
def bindN (is : List Nat) : DV → DSt → Option DSt
  | .tup ds, S => setAll S is ds
  | _, _ => none
def gNames : List Nat → TGs
  | [] => gNil
  | i :: is => gCons (gName i) (gNames is)
theorem setAll_ok {K : PySem.W.Frag} {F : Hp} {H : Hp} {vs : List Nat} {Q : L2.St → Hp → Prop} : ∀ {is : List Nat} {S S2 : DSt} {σ : L2.St} {ws : List V} {ds : List DV}, (∀ i ∈ is, i ∈ vs) → Reps K F ws ds → SR K F σ S → setAll S is ds = some S2 →
    (∀ σ2, SR K F σ2 S2 → L2.wipe σ2 vs = L2.wipe σ vs → Q σ2 H) → ws.length = is.length ∧ gNames is ws σ H Q
  | [], S, S2, σ, ws, [], hi, r, sr, e, h => by
    cases r; cases e
    exact ⟨rfl, rfl, h σ sr rfl⟩
  | i :: is, S, S2, σ, ws, d :: ds, hi, r, sr, e, h => by
    cases r with | @cons v _ ws _ r1 r2 =>
    have q := setAll_ok (H := H) (Q := Q) (is := is) (fun j hj => hi j (List.mem_cons_of_mem _ hj)) r2 (sr.set i r1) e (fun σ2 h1 h2 => h σ2 h1 (h2.trans (wipe_set (hi i List.mem_cons_self))))
    exact ⟨by simp [q.1], v, ws, rfl, q.2⟩
  | [], _, _, _, _, _ :: _, _, _, _, e, _ => by cases e
  | _ :: _, _, _, _, _, [], _, _, _, e, _ => by cases e
theorem tgt_N {K : PySem.W.Frag} {is : List Nat} {n : Nat} {vs : List Nat} (hi : ∀ i ∈ is, i ∈ vs) (hn : is.length = n) : TgtOk K (gTup K n (gNames is)) (bindN is) vs := by
  refine ⟨fun {F O H v d σ S S2 Q} rs r sr e h => ?_⟩
  unfold bindN at e
  split at e
  · cases r with | @tup a ws ds e1 r1 =>
    obtain ⟨q1, q2⟩ := setAll_ok hi r1 sr e h
    exact ⟨a, ws, rfl, SqT.of (rs.tup e1), q1.trans hn, q2⟩
  · cases e
structure DTs (X : Cx) (ifs : List Expr) (t : DTT) : Prop where
  pts : PTs X ifs (liftT X.K t)
def dYes (u0_ : DSt) (O : Own) (Q : Bool → Own → Prop) : Prop := Q true O
theorem PTs_imp {X : Cx} {e : List Expr} {t t' : TT} (h : PTs X e t) (i : ∀ σ H Q, t' σ H Q → t σ H Q) : PTs X e t' := ⟨fun pins s σ H Q I q => h.run pins s σ H Q I (i σ H Q q)⟩
theorem dts_nil {X : Cx} : DTs X [] dYes := ⟨PTs_imp pts_nil fun σ H VQ ⟨F, O, S, Q, rs, sr, h, fin⟩ => fin _ _ h H F (.refl rs)⟩
theorem dts_one {X : Cx} {c : Expr} {t : DTT} (h : DT X c t) : DTs X [c] t := ⟨pts_one h.pt⟩
/-- something beside -/
theorem Stp.side {K : PySem.W.Frag} {F H F' H' : Hp} {O O' : Own} {D : Addr} (s : Stp K F O H F' O' H') (h : H D = none) (hf : F' D = none) (ho : O' D = none) (o : HO) : Stp K F O H F' O' (upd H' D o) := by
  refine ⟨s.sub, ⟨fun b u e => ?_, fun b c e => ?_⟩, fun b u h1 h2 => ?_, s.nof⟩
  · rw [upd_ne (fun z => by subst z; rw [hf] at e; cases e)]; exact s.rs.fro b u e
  · obtain ⟨h1, h2⟩ := s.rs.own b c e
    exact ⟨h1, h2.mono (Sub.refl _) (upd_ne (fun z => by subst z; rw [ho] at e; cases e))⟩
  · obtain ⟨h3, h4⟩ := s.keep b u h1 h2
    exact ⟨by rw [upd_ne (fun z => by subst z; rw [h] at h1; cases h1)]; exact h3, h4⟩
/-- the new list: frozen, or owned -/
def endLc : Bool → DVK → List DV → Own → Prop
  | false, Q, acc, O => Q (.lst acc) O
  | true, Q, acc, O => ∀ p, O p = none → Q (.ref p) (oset O p (.lst acc))
theorem endLc_ok {K : PySem.W.Frag} {F H F' H' : Hp} {O O' : Own} {D : Addr} {vacc : List V} {acc : List DV} {ow : Bool} {Q : DVK} {VQ : VK} (s' : Stp K F O H F' O' H') (hD : H D = none) (hd' : H' D = some (.lst vacc)) (hf' : F' D = none) (ho' : O' D = none) (ra : Reps K F' vacc acc)
    (h : endLc ow Q acc O') (fin : FinE K F O H Q VQ) : VQ (.ref D) H' := by
  cases ow with
  | false =>
    refine fin _ _ h _ H' (upd F' D (.lst vacc)) ⟨s'.sub.trans (Sub.upd hf'), ⟨fun b u e => ?_, fun b c e => ?_⟩, s'.keep, fun b u h1 h2 h3 => ?_⟩ (.lst upd_same (ra.mono (Sub.upd hf')))
    · by_cases hb : b = D
      · subst hb; rw [upd_same] at e; cases e; exact .inl hd'
      · rw [upd_ne hb] at e; exact s'.rs.fro b u e
    · have hb : b ≠ D := fun z => by subst z; rw [ho'] at e; cases e
      obtain ⟨h3, h4⟩ := s'.rs.own b c e
      exact ⟨by rw [upd_ne hb]; exact h3, h4.mono (Sub.upd hf') rfl⟩
    · rw [upd_ne (fun z => by subst z; rw [hD] at h1; cases h1)]; exact s'.nof b u h1 h2 h3
  | true =>
    refine fin _ _ (h D ho') _ H' F' ⟨s'.sub, ⟨s'.rs.fro, fun b c e => ?_⟩, fun b u h1 h2 => ?_, s'.nof⟩ (.ref D)
    · by_cases hb : b = D
      · subst hb; rw [oset_same] at e; cases e
        exact ⟨hf', vacc, hd', ra⟩
      · rw [oset_ne hb] at e; exact s'.rs.own b c e
    · have hb : b ≠ D := fun z => by subst z; rw [hD] at h1; cases h1
      rw [oset_ne hb]; exact s'.keep b u h1 h2
def lcW (ow : Bool) (b : DV → DSt → Option DSt) (tt : DTT) (te : DTE) (S : DSt) (Q : DVK) : List DV → List DV → Own → Prop
  | [], acc, O => endLc ow Q acc O
  | x :: r, acc, O => onSome (b x S) fun S2 => tt S2 O fun c O2 => if c = true then te S2 O2 fun y O3 => acc.length < 16000000 ∧ lcW ow b tt te S Q r (acc ++ [y]) O3 else lcW ow b tt te S Q r acc O2
def dLc (ow : Bool) (di : DTI) (b : DV → DSt → Option DSt) (tt : DTT) (te : DTE) (vs : List Nat) (S : DSt) (O : Own) (Q : DVK) : Prop := di S O fun ds O1 => lcW ow b tt te (dwipe S vs) Q ds [] O1
theorem lc_line {n : Nat} (h : n < 16000000) : n < sizeLine := by
  have := sizeLine_eq
  omega
theorem liftLc {K : PySem.W.Frag} {ow : Bool} {di : DTI} {g : TG} {b : DV → DSt → Option DSt} {tt : DTT} {te : DTE} {vs : List Nat} (hg : TgtOk K g b vs) {σ : L2.St} {H : Hp} {VQ : VK} (h : liftE K (dLc ow di b tt te vs) σ H VQ) :
    tLc (liftI K di) g (liftT K tt) (liftE K te) vs σ H VQ := by
  obtain ⟨F, O, S, Q, rs, sr, h, fin⟩ := h
  refine ⟨F, O, S, _, rs, sr, h, fun ds O1 h1 J H1 F1 s1 y D hD => ?_⟩
  obtain ⟨hf1, ho1⟩ := s1.rs.free hD
  refine ⟨fun i m H' => m = ds.length - i ∧ ∃ F' O' acc vacc, Stp K F1 O1 H1 F' O' H' ∧ H' D = some (.lst vacc) ∧ F' D = none ∧ O' D = none ∧ Reps K F' vacc acc ∧ lcW ow b tt te (dwipe S vs) Q (ds.drop i) acc O',
    ⟨_, rfl, F1, O1, [], [], (Stp.refl s1.rs).side hD hf1 ho1 _, upd_same, hf1, ho1, .nil, h1⟩, ?_⟩
  rintro i m H' ⟨em, F', O', acc, vacc, s', hd', hf', ho', ra, h'⟩
  obtain ⟨y1, y2⟩ := y i O' H' F' s'.sub s'.rs
  by_cases hi : i < ds.length
  · have e0 : ds[i]? = some ds[i] := List.getElem?_eq_getElem hi
    rw [List.drop_eq_getElem_cons hi] at h'
    obtain ⟨hgo, hy⟩ := y1 _ e0
    refine .inr ⟨hgo, fun H2 => ∃ F' O' acc vacc, Stp K F1 O1 H1 F' O' H2 ∧ H2 D = some (.lst vacc) ∧ F' D = none ∧ O' D = none ∧ Reps K F' vacc acc ∧ lcW ow b tt te (dwipe S vs) Q (ds.drop (i + 1)) acc O', fun H2 q => ⟨_, ?_, rfl, q⟩, fun x H2 q => ?_⟩
    · omega
    · obtain ⟨F3, s3, r3⟩ := hy x H2 q
      unfold lcW at h'
      obtain ⟨S2, e2, h'⟩ := onSome_ex h'
      · refine hg.ok s3.rs r3 (((sr.mono s1.sub).mono s'.sub).mono s3.sub |>.wipe vs) e2 fun σ2 sr2 ew => ⟨ew.trans (wipe_wipe fun _ h => h), F3, O', S2, _, s3.rs, sr2, h', fun c O4 h4 H4 F4 s4 => ?_⟩
        have st4 := s3.trans s4
        dsimp only at h4 ⊢
        split
        · rename_i e; rw [if_pos e] at h4
          refine ⟨F4, O4, S2, _, s4.rs, sr2.mono s4.sub, h4, fun d O5 h5 v H5 F5 s5 r5 => ?_⟩
          have st5 := st4.trans s5
          obtain ⟨k1, k2⟩ := st5.keep D _ hd' ho'
          have k3 := st5.nof D _ hd' ho' hf'
          exact ⟨vacc, k1, by rw [ra.len]; exact lc_line h5.1, F5, O5, _, _, (s'.trans st5).side hD k3 k2 _, upd_same, k3, k2, (ra.mono st5.sub).append (.cons r5 .nil), h5.2⟩
        · rename_i e; rw [if_neg e] at h4
          obtain ⟨k1, k2⟩ := st4.keep D _ hd' ho'
          have k3 := st4.nof D _ hd' ho' hf'
          exact ⟨F4, O4, acc, vacc, s'.trans st4, k1, k3, k2, ra.mono st4.sub, h4⟩
  · rw [List.drop_eq_nil_of_le (by omega)] at h'
    exact .inl ⟨y2 (by omega), endLc_ok s' hD hd' hf' ho' ra h' (fin.step s1)⟩
section
variable {X : Cx}
theorem de_lc (ow : Bool) {elt tg iter : Expr} {ifs : List Expr} {scope : Scope} {own : List (Str × Nat)} {pos : Pos} {di : DTI} {g : TG} {b : DV → DSt → Option DSt} {tt : DTT} {te : DTE} (hc : X.calm = true) (hN : X.N.Nodup) (hi : DI X tg iter di) (ok : BlkOk X.N X.env.scope scope own) (hT : TgtOk X.K g b (own.map (·.2)))
    (hg : ∀ (s : Shared) (H : Hp) (C : Addr) (cl : List (Str × Addr)) (fp : List Addr), PG (X.blk s H scope (compEnvC scope cl C X.env) fp) tg g) (ht : ∀ (s : Shared) (H : Hp) (C : Addr) (cl : List (Str × Addr)) (fp : List Addr), DTs (X.blk s H scope (compEnvC scope cl C X.env) fp) ifs tt)
    (he : ∀ (s : Shared) (H : Hp) (C : Addr) (cl : List (Str × Addr)) (fp : List Addr), DE (X.blk s H scope (compEnvC scope cl C X.env) fp) elt te) (hs : ∀ x, foldedSetIterable iter X.env x = pure x := by intro _; rfl) :
    DE X (.ListComp elt [⟨tg, iter, ifs, 0⟩] scope pos) (dLc ow di b tt te (own.map (·.2))) :=
  ⟨PE_imp (pe_lc (te := liftE X.K te) (tt := liftT X.K tt) hc hN hi.pi ok hg (fun s H C cl fp => (ht s H C cl fp).pts) (fun s H C cl fp => (he s H C cl fp).pe) hs) fun _ _ _ h => liftLc hT h⟩
theorem ds_setLc (ow : Bool) (i : Nat) {y : Str} {py : Pos} {elt tg iter : Expr} {ifs : List Expr} {scope : Scope} {own : List (Str × Nat)} {pos spos : Pos} {di : DTI} {g : TG} {b : DV → DSt → Option DSt} {tt : DTT} {te : DTE} (hc : X.calm = true) (hN : X.N.Nodup) (hsw : swapsWith (.ListComp elt [⟨tg, iter, ifs, 0⟩] scope pos) (some (.Name y py)) spos.line X.env = pure true) (hi : DI X tg iter di) (ok : BlkOk X.N X.env.scope scope own) (hT : TgtOk X.K g b (own.map (·.2)))
    (hg : ∀ (s : Shared) (H : Hp) (C : Addr) (cl : List (Str × Addr)) (fp : List Addr), PG (X.blk s H scope (compEnvC scope cl C X.env) fp) tg g) (ht : ∀ (s : Shared) (H : Hp) (C : Addr) (cl : List (Str × Addr)) (fp : List Addr), DTs (X.blk s H scope (compEnvC scope cl C X.env) fp) ifs tt)
    (he : ∀ (s : Shared) (H : Hp) (C : Addr) (cl : List (Str × Addr)) (fp : List Addr), DE (X.blk s H scope (compEnvC scope cl C X.env) fp) elt te) (hy : X.N[i]? = some y := by rfl) (hyl : X.env.scope.names.lookup y = some .local := by rfl) (hs : ∀ x, foldedSetIterable iter X.env x = pure x := by intro _; rfl) :
    DS X (.Assign [.Name y py] (.ListComp elt [⟨tg, iter, ifs, 0⟩] scope pos) spos) (dAsg (dLc ow di b tt te (own.map (·.2))) (dgName i)) := by
  refine ⟨PS_imp (ps_setLc (i := i) (te := liftE X.K te) (tt := liftT X.K tt) hc hN hy hyl hsw hi.pi ok hg (fun s H C cl fp => (ht s H C cl fp).pts) (fun s H C cl fp => (he s H C cl fp).pe) hs) ?_⟩
  rintro VD σ H ⟨F, O, S, D, rs, sr, h, fin⟩
  exact liftLc hT ⟨F, O, S, _, rs, sr, h, fun d O1 h1 v H1 F1 s1 rv => fin.nx _ _ h1 _ H1 F1 s1 ((sr.mono s1.sub).set i rv)⟩
end
end DL

set_option Elab.async false
set_option linter.all false
set_option maxRecDepth 100000
/-! DCall: defs and their calls, over data. -/
namespace DL
open PySem PySem.Spec PyProof.Rows L2 TL

/-- an exception: its class, its fields (none: no dict) -/
abbrev DXK := Addr → Option (List (Str × DV)) → Own → Prop
abbrev DSp := List DV → Own → DVK → DXK → Prop
def XAt (K : PySem.W.Frag) (F H : Hp) (d : Option Addr) : Option (List (Str × DV)) → Prop
  | none => d = none
  | some fs => ∃ dx fvs, d = some dx ∧ H dx = some (.xd fvs) ∧ RepF K F fvs fs
def FinX (K : PySem.W.Frag) (F : Hp) (O : Own) (H : Hp) (ED : DXK) (E : XK) : Prop := ∀ C fs O', ED C fs O' → ∀ d H' F', Stp K F O H F' O' H' → XAt K F' H' d fs → E (.ref C) d H'
theorem FinX.step {K : PySem.W.Frag} {F F' H H' : Hp} {O O' : Own} {Q : DXK} {VQ : XK} (h : FinX K F O H Q VQ) (s : Stp K F O H F' O' H') : FinX K F' O' H' Q VQ := fun C fs O q d H G s' p => h C fs O q d H G (s.trans s') p
def liftSp (K : PySem.W.Frag) (sp : DSp) : Sp := fun vs H Q E => ∃ F O ds QD ED, RS K F O H ∧ Reps K F vs ds ∧ sp ds O QD ED ∧ FinE K F O H QD Q ∧ FinX K F O H ED E
abbrev X0 : DXK := fun _ _ _ => False
/-- a promise that is asked -/
def callsp (sp : DSp) (ds : List DV) (O : Own) (Q : DVK) (E : DXK) : Prop := sp ds O Q E
def dCall (sp : DSp) (t : DTA) (S : DSt) (O : Own) (Q : DVK) : Prop := t S O fun ds O1 => callsp sp ds O1 Q X0
section
variable {X : Cx} {k : Nat} {f : Addr} {fd : FuncData} {ps : List Str} {sp : DSp} {x : Str} {p pos : Pos} {e : Expr} {es : List Expr} {t : DTA}
theorem liftCall {K : PySem.W.Frag} {sp : DSp} {t : DTA} {σ : L2.St} {H : Hp} {VQ : VK} (h : liftE K (dCall sp t) σ H VQ) : tCall (liftSp K sp) [] E0 (liftA K t) σ H VQ := by
  obtain ⟨F, O, S, Q, rs, sr, h, fin⟩ := h
  refine ⟨F, O, S, _, rs, sr, h, fun ds O1 h1 vs H1 F1 s1 r1 => ⟨F1, O1, ds, Q, X0, s1.rs, by simpa using r1, h1, fin.step s1, fun _ _ _ h => h.elim⟩⟩
/-- f(e, ..), nothing is raised -/
theorem de_call (G : FnOk X.prog X.w X.K X.mg X.base CX0 k f fd ps (liftSp X.K sp)) (hr : Room k X.A) (hm : X.mg x = some (.ref f)) (hk : PySem.W.keepIn X.K (.ref f) = true) (hb : Binds X.K fd ps [])
    (ha : DA X (e :: es) t) (hg : Gl X x := by rfl) (hdb : (x == ("__debug__" : Str)) = false := by decide) (he : starEach (e :: es) X.env = (false, eval e X.env) :: starEach es X.env := by rfl) (hpl : (backTo pos (starEach es X.env)).any (·.1) = false := by rfl) :
    DE X (.Call (.Name x p) (e :: es) [] pos) (dCall sp t) :=
  ⟨PE_imp (pe_call G hr hg hm hk hb .nil pass0 ha.pa hdb he hpl) fun _ _ _ h => liftCall h⟩
theorem de_call0 (G : FnOk X.prog X.w X.K X.mg X.base CX0 k f fd ps (liftSp X.K sp)) (hr : Room k X.A) (hm : X.mg x = some (.ref f)) (hk : PySem.W.keepIn X.K (.ref f) = true) (hb : Binds X.K fd ps [])
    (hg : Gl X x := by rfl) (hdb : (x == ("__debug__" : Str)) = false := by decide) :
    DE X (.Call (.Name x p) [] [] pos) (dCall sp dANil) := by
  refine ⟨PE_imp (pe_call0 G hr hg hm hk hb .nil pass0 hdb) ?_⟩
  rintro σ H VQ ⟨F, O, S, Q, rs, sr, h, fin⟩
  exact ⟨F, O, [], Q, X0, rs, .nil, h, fin, fun _ _ _ h => h.elim⟩
end
def dstart : Nat → List DV → DSt
  | 0, _ => []
  | n + 1, [] => none :: dstart n []
  | n + 1, d :: ds => some d :: dstart n ds
theorem dstart_eq : ∀ {n : Nat} {ds : List DV}, ds.length ≤ n → dstart n ds = ds.map some ++ List.replicate (n - ds.length) none
  | 0, [], _ => rfl
  | 0, _ :: _, h => by simp at h
  | n + 1, [], _ => by
    have := dstart_eq (n := n) (ds := []) (Nat.zero_le _)
    show none :: dstart n [] = _
    rw [this]; simp [List.replicate_succ]
  | n + 1, d :: ds, h => by
    have := dstart_eq (n := n) (ds := ds) (by simpa using h)
    show some d :: dstart n ds = _
    rw [this]; simp
section
variable {P : Program} {w : World} {K : PySem.W.Frag} {mg : Str → Option Value} {base : Heap}
/-- a def's body keeps its promise; nothing leaves it -/
theorem DFun.ok {x qual : Str} {st : Stmt} {f : Addr} {fd : FuncData} {N ps : List Str} {k : Nat} {sp : DSp} (F : Fun K x qual st f fd) (S : FnScope N ps (defScope st)) (hn : ps.length ≤ N.length) (len : ∀ ds O Q E, sp ds O Q E → ds.length = ps.length)
    (hbody : ∀ (cdv : Value) (A : Around) (outer : List Env) (s : Shared) (H : Hp) (E : XK) (ds : List DV) (O : Own) (Q : DVK) (ED : DXK), Room k (A.deeper (envOfC qual (defScope st) s.heap.objs.size f cdv)) → sp ds O Q ED →
      ∃ t, DSs (cxOf CX0 P w K mg base N qual (defScope st) f cdv A outer s H E).nox (defBody st) t ∧ t { nx := fun _ O' => Q .non O', rt := Q } (dstart N.length ds) O) : FnOk P w K mg base CX0 (k + 1) f fd ps (liftSp K sp) := by
  refine F.ok S (fun vs H Q E h => ?_) (fun cdv A outer s H vs Q E hr h => ?_)
  · obtain ⟨F, O, ds, QD, ED, rs, r, h, _⟩ := h
    rw [r.len]; exact len _ _ _ _ h
  · obtain ⟨F, O, ds, QD, ED, rs, r, h, fin, _⟩ := h
    obtain ⟨t, h1, h2⟩ := hbody cdv A outer s H E ds O QD ED hr h
    refine ⟨_, h1.ps, F, O, _, _, rs, ?_, h2, ⟨fun S1 O1 q σ1 H1 F1 s1 sr1 => fin _ _ q _ H1 F1 s1 .non, fin, fun _ _ h => h.elim, fun _ _ h => h.elim⟩⟩
    have hl := len _ _ _ _ h
    rw [dstart_eq (by omega)]
    exact SR.start N r
/-- a promise that is never asked -/
theorem fn_false {f : Addr} {fd : FuncData} {ps : List Str} {k : Nat} {sp : DSp} (h : ∀ ds O Q E, sp ds O Q E → False) : FnOk P w K mg base CX0 k f fd ps (liftSp K sp) where
  len := fun vs H Q E ⟨F, O, ds, QD, ED, _, _, q, _⟩ => (h _ _ _ _ q).elim
  run := fun A outer s H args us vs Q E _ _ _ _ ⟨F, O, ds, QD, ED, _, _, q, _⟩ => (h _ _ _ _ q).elim
/-- the law's own end: True, whatever else -/
def spLaw : DSp := fun ds O Q _ => ∃ (ns : List Int), ds = [.slst (ns.map DV.int)] ∧ ns.length ≤ 63 ∧ O = (fun _ => none) ∧ ∀ O', Q (.bl true) O'
theorem law_sp {K : PySem.W.Frag} {H : Hp} {a : Addr} {ns : List Int} (hl : ns.length ≤ 63) (h : SqL K H a (ns.map V.int)) : liftSp K spLaw [.ref a] H (fun v _ => v = .bl true) fun _ _ _ => False := by
  refine ⟨H, fun _ => none, [.slst (ns.map DV.int)], fun d _ => d = .bl true, X0, ⟨fun _ _ e => .inl e, fun _ _ e => nomatch e⟩, .cons (.slst h (Reps.of_ints ns)) .nil, ⟨ns, rfl, hl, rfl, fun _ => rfl⟩, ?_, fun _ _ _ h => h.elim⟩
  rintro d O' rfl v H' F' _ r
  cases r; rfl
theorem walk {l : PySem.W.OpenLaw} {q : Program} {loose : List Str} {XP : (Str → Option Value) → Heap → Prop} {YP : World → Heap → Prop} {d : DefRec} {K : Params → PySem.W.Frag} {k : Nat} (hk : k ≤ 200) (hn : l.most = some 63) (hdf : d.params.defaults = [])
    (hY : ∀ (w : World) (h : Heap), YP w h → (K w.params).In h)
    (F : ∀ (w : World) (mg : Str → Option Value) (fa : Addr) (h : Heap), (K w.params).In h → h.Ns mainGlobals mg → mg d.name = some (.ref fa) →
      ∃ fd : FuncData, (∀ (s : Shared) (u : Value), BindsTo s fd ⟨[u], []⟩ [("_law_script", u)]) ∧ ∀ base : Heap, (K w.params).In base → base.Ns mainGlobals mg → FnOk l.prog w (K w.params) mg base CX0 k fa fd ["_law_script"] (liftSp (K w.params) spLaw)) :
    PySem.W.WalkO q loose XP YP l.row.toRowW d [] (fun f vs => PySem.call f vs) :=
  L2.walk_of (n := 63) (k := k) (x := "_law_script") (CX := fun _ => CX0) (sp := fun w => liftSp (K w.params) spLaw) hn (by decide) hdf (Room.mono (k := 200) ⟨rfl, by decide, by decide⟩ hk) hY F (fun _ _ a ns hl _ hS => law_sp hl hS) fun _ _ _ _ _ z => z
end
end DL
namespace DL
open PySem PySem.Spec PyProof.Rows L2 TL
/-- a statement, the rest put aside -/
theorem seq_r {t u : DTS} {D : DEnds} {S : DSt} {O : Own} (h : ∀ R : DSt → Own → Prop, R = u D → t { D with nx := R } S O) : dSeq t u D S O := h _ rfl
end DL

set_option Elab.async false
set_option linter.all false
set_option maxRecDepth 100000
/-! DDict: dicts over data; text * int; two clauses. -/
namespace DL
open PySem PySem.Spec PyProof.Rows L2 TL

section
variable {κ : Type} [DecidableEq κ]
def dget (es : List (κ × DV)) (k : κ) : Option DV := (es.find? fun kv => decide (kv.1 = k)).map (·.2)
def dput (es : List (κ × DV)) (k : κ) (v : DV) : List (κ × DV) :=
  if (es.any fun kv => decide (kv.1 = k)) = true then es.map (fun kv => if kv.1 = k then (kv.1, v) else kv) else es ++ [(k, v)]
def dmerge (es more : List (κ × DV)) : List (κ × DV) := more.foldl (fun acc kv => dput acc kv.1 kv.2) es
end
section
variable {K : PySem.W.Frag} {F : Hp}
theorem RepK.get : ∀ {kvs : List (Key × V)} {es : List (Key × DV)} {k : Key}, RepK K F kvs es → (∀ d, dget es k = some d → ∃ v, valV kvs k = some v ∧ Rep K F v d) ∧ (dget es k = none → valV kvs k = none)
  | _, _, k, .nil => ⟨fun d h => (by cases h), fun _ => rfl⟩
  | _, _, k, .cons (k := k') (v := v) (d := d) r q => by
    obtain ⟨h1, h2⟩ := RepK.get (k := k) q
    by_cases e : k' = k
    · refine ⟨fun d' h => ⟨v, valV_pos e, ?_⟩, fun h => ?_⟩
      · simp [dget, List.find?_cons, e] at h
        subst h; exact r
      · simp [dget, List.find?_cons, e] at h
    · have ed : ∀ r', dget ((k', d) :: r') k = dget r' k := fun r' => by simp [dget, List.find?_cons, e]
      refine ⟨fun d' h => ?_, fun h => ?_⟩
      · rw [ed] at h; rw [valV_neg e]; exact h1 d' h
      · rw [ed] at h; rw [valV_neg e]; exact h2 h
theorem RepT.get : ∀ {kvs : List (List Key × V)} {es : List (List Key × DV)} {k : List Key}, RepT K F kvs es → (∀ d, dget es k = some d → ∃ v, valV kvs k = some v ∧ Rep K F v d) ∧ (dget es k = none → valV kvs k = none)
  | _, _, k, .nil => ⟨fun d h => (by cases h), fun _ => rfl⟩
  | _, _, k, .cons (k := k') (v := v) (d := d) r q => by
    obtain ⟨h1, h2⟩ := RepT.get (k := k) q
    by_cases e : k' = k
    · refine ⟨fun d' h => ⟨v, valV_pos e, ?_⟩, fun h => ?_⟩
      · simp [dget, List.find?_cons, e] at h
        subst h; exact r
      · simp [dget, List.find?_cons, e] at h
    · have ed : ∀ r', dget ((k', d) :: r') k = dget r' k := fun r' => by simp [dget, List.find?_cons, e]
      refine ⟨fun d' h => ?_, fun h => ?_⟩
      · rw [ed] at h; rw [valV_neg e]; exact h1 d' h
      · rw [ed] at h; rw [valV_neg e]; exact h2 h
theorem RepK.any (k : Key) : ∀ {kvs : List (Key × V)} {es : List (Key × DV)}, RepK K F kvs es → (kvs.any fun kv => decide (kv.1 = k)) = (es.any fun kv => decide (kv.1 = k))
  | _, _, .nil => rfl
  | _, _, .cons r q => by rw [List.any_cons, List.any_cons, RepK.any k q]
theorem RepT.any (k : List Key) : ∀ {kvs : List (List Key × V)} {es : List (List Key × DV)}, RepT K F kvs es → (kvs.any fun kv => decide (kv.1 = k)) = (es.any fun kv => decide (kv.1 = k))
  | _, _, .nil => rfl
  | _, _, .cons r q => by rw [List.any_cons, List.any_cons, RepT.any k q]
theorem RepK.append : ∀ {a b : List (Key × V)} {c d : List (Key × DV)}, RepK K F a c → RepK K F b d → RepK K F (a ++ b) (c ++ d)
  | _, _, _, _, .nil, q => q
  | _, _, _, _, .cons r p, q => .cons r (RepK.append p q)
theorem RepT.append : ∀ {a b : List (List Key × V)} {c d : List (List Key × DV)}, RepT K F a c → RepT K F b d → RepT K F (a ++ b) (c ++ d)
  | _, _, _, _, .nil, q => q
  | _, _, _, _, .cons r p, q => .cons r (RepT.append p q)
theorem RepK.mapPut {k : Key} {v : V} {d : DV} (r : Rep K F v d) : ∀ {kvs : List (Key × V)} {es : List (Key × DV)}, RepK K F kvs es → RepK K F (kvs.map fun kv => if kv.1 = k then (kv.1, v) else kv) (es.map fun kv => if kv.1 = k then (kv.1, d) else kv)
  | _, _, .nil => .nil
  | _, _, .cons (k := k') p q => by
    rw [List.map_cons, List.map_cons]
    by_cases e : k' = k
    · simp only [e, if_true]; exact .cons r (RepK.mapPut r q)
    · simp only [e, if_false]; exact .cons p (RepK.mapPut r q)
theorem RepT.mapPut {k : List Key} {v : V} {d : DV} (r : Rep K F v d) : ∀ {kvs : List (List Key × V)} {es : List (List Key × DV)}, RepT K F kvs es → RepT K F (kvs.map fun kv => if kv.1 = k then (kv.1, v) else kv) (es.map fun kv => if kv.1 = k then (kv.1, d) else kv)
  | _, _, .nil => .nil
  | _, _, .cons (k := k') p q => by
    rw [List.map_cons, List.map_cons]
    by_cases e : k' = k
    · simp only [e, if_true]; exact .cons r (RepT.mapPut r q)
    · simp only [e, if_false]; exact .cons p (RepT.mapPut r q)
theorem RepK.put {k : Key} {v : V} {d : DV} {kvs : List (Key × V)} {es : List (Key × DV)} (q : RepK K F kvs es) (r : Rep K F v d) : RepK K F (putK kvs k v) (dput es k d) := by
  unfold putK dput
  rw [q.any k]
  split
  · exact q.mapPut r
  · exact q.append (.cons r .nil)
theorem RepT.put {k : List Key} {v : V} {d : DV} {kvs : List (List Key × V)} {es : List (List Key × DV)} (q : RepT K F kvs es) (r : Rep K F v d) : RepT K F (putK kvs k v) (dput es k d) := by
  unfold putK dput
  rw [q.any k]
  split
  · exact q.mapPut r
  · exact q.append (.cons r .nil)
theorem RepK.len : ∀ {kvs : List (Key × V)} {es : List (Key × DV)}, RepK K F kvs es → kvs.length = es.length
  | _, _, .nil => rfl
  | _, _, .cons _ q => by simp [RepK.len q]
theorem RepT.len : ∀ {kvs : List (List Key × V)} {es : List (List Key × DV)}, RepT K F kvs es → kvs.length = es.length
  | _, _, .nil => rfl
  | _, _, .cons _ q => by simp [RepT.len q]
theorem RepK.merge : ∀ {more : List (Key × V)} {em : List (Key × DV)} {kvs : List (Key × V)} {es : List (Key × DV)}, RepK K F more em → RepK K F kvs es → RepK K F (mergeK kvs more) (dmerge es em)
  | _, _, _, _, .nil, q => q
  | _, _, kvs, es, .cons (k := k) (v := v) (d := d) (vs := vs) (ds := ds) r p, q => by
    show RepK K F (mergeK (putK kvs k v) vs) (dmerge (dput es k d) ds)
    exact RepK.merge p (q.put r)
end

def dkOf (O : Own) : DV → Option (List (Key × DV))
  | .dK es => some es
  | .ref a => match O a with
    | some (.dK es) => some es
    | _ => none
  | _ => none
def dtOf (O : Own) : DV → Option (List (List Key × DV))
  | .dT es => some es
  | .ref a => match O a with
    | some (.dT es) => some es
    | _ => none
  | _ => none
theorem dkOf_at {K : PySem.W.Frag} {F H : Hp} {O : Own} {v : V} {d : DV} {es : List (Key × DV)} (rs : RS K F O H) (r : Rep K F v d) (h : dkOf O d = some es) : ∃ a kvs, v = .ref a ∧ Rd H a (.dK kvs) ∧ RepK K F kvs es := by
  cases r with
  | dK e r =>
    cases h
    rcases rs.fro _ _ e with e | ⟨_, ob, e⟩
    · exact ⟨_, _, rfl, .inl e, r⟩
    · exact ⟨_, _, rfl, .inr ⟨ob, e⟩, r⟩
  | ref a =>
    simp only [dkOf] at h
    split at h
    · rename_i ys e
      cases h
      obtain ⟨_, vs, h1, h2⟩ := rs.own a _ e
      exact ⟨a, vs, rfl, .inl h1, h2⟩
    · cases h
  | _ => cases h
theorem dtOf_at {K : PySem.W.Frag} {F H : Hp} {O : Own} {v : V} {d : DV} {es : List (List Key × DV)} (rs : RS K F O H) (r : Rep K F v d) (h : dtOf O d = some es) : ∃ a kvs, v = .ref a ∧ Rd H a (.dT kvs) ∧ RepT K F kvs es := by
  cases r with
  | dT e r =>
    cases h
    rcases rs.fro _ _ e with e | ⟨_, ob, e⟩
    · exact ⟨_, _, rfl, .inl e, r⟩
    · exact ⟨_, _, rfl, .inr ⟨ob, e⟩, r⟩
  | ref a =>
    simp only [dtOf] at h
    split at h
    · rename_i ys e
      cases h
      obtain ⟨_, vs, h1, h2⟩ := rs.own a _ e
      exact ⟨a, vs, rfl, .inl h1, h2⟩
    · cases h
  | _ => cases h
def keyD : DV → Option Key
  | .str x => some (.inr x)
  | .int i => some (.inl i)
  | _ => none
def keysD : List DV → Option (List Key)
  | [] => some []
  | d :: r => match keyD d, keysD r with
    | some k, some ks => some (k :: ks)
    | _, _ => none
def keyTD : DV → Option (List Key)
  | .tup ds => keysD ds
  | _ => none
theorem keyD_at {K : PySem.W.Frag} {F : Hp} {v : V} {d : DV} {k : Key} (r : Rep K F v d) (h : keyD d = some k) : v = kV k := by
  cases r <;> cases h <;> rfl
theorem keysD_at {K : PySem.W.Frag} {F : Hp} : ∀ {vs : List V} {ds : List DV} {ks : List Key}, Reps K F vs ds → keysD ds = some ks → vs = ks.map kV
  | _, _, _, .nil, h => by cases h; rfl
  | _, _, _, .cons r q, h => by
    unfold keysD at h
    split at h
    · rename_i k ks e1 e2; cases h
      rw [keyD_at r e1, keysD_at q e2]; rfl
    · cases h
theorem keyTD_at {K : PySem.W.Frag} {F H : Hp} {O : Own} {v : V} {d : DV} {ks : List Key} (rs : RS K F O H) (r : Rep K F v d) (h : keyTD d = some ks) : ∃ b, v = .ref b ∧ H b = some (.tup (ks.map kV)) := by
  cases r with
  | tup e r =>
    have := keysD_at r h
    subst this
    exact ⟨_, rfl, rs.tup e⟩
  | _ => cases h
/-- what a dict holds at a key -/
def dfind (O : Own) (x y : DV) : Option (Option DV) :=
  match keyD y with
  | some k => match dkOf O x with
    | some es => some (dget es k)
    | none => none
  | none => match keyTD y with
    | some k => match dtOf O x with
      | some es => some (dget es k)
      | none => none
    | none => none
theorem dfind_at {K : PySem.W.Frag} {F H : Hp} {O : Own} {u v : V} {x y : DV} {r : Option DV} (rs : RS K F O H) (rx : Rep K F u x) (ry : Rep K F v y) (h : dfind O x y = some r) :
    ∃ a o, u = .ref a ∧ DGet H a v o ∧ (∀ d, r = some d → ∃ w, o = some w ∧ Rep K F w d) ∧ (r = none → o = none) := by
  unfold dfind at h
  split at h
  · rename_i k e
    split at h
    · rename_i es e2
      cases h
      obtain ⟨a, kvs, rfl, h1, r1⟩ := dkOf_at rs rx e2
      have := keyD_at ry e
      subst this
      exact ⟨a, valV kvs k, rfl, .inl ⟨kvs, k, h1, rfl, rfl⟩, (r1.get (k := k)).1, (r1.get (k := k)).2⟩
    · cases h
  · split at h
    · rename_i k e
      split at h
      · rename_i es e2
        cases h
        obtain ⟨a, kvs, rfl, h1, r1⟩ := dtOf_at rs rx e2
        obtain ⟨b, rfl, h2⟩ := keyTD_at rs ry e
        exact ⟨a, valV kvs k, rfl, .inr ⟨kvs, k, b, h1, rfl, h2, rfl⟩, (r1.get (k := k)).1, (r1.get (k := k)).2⟩
      · cases h
    · cases h
def onK : Option Cell → (List (Key × DV) → Prop) → Prop
  | some (.dK es), K => K es
  | _, _ => False
def onT : Option Cell → (List (List Key × DV) → Prop) → Prop
  | some (.dT es), K => K es
  | _, _ => False
def dkQ (O : Own) : DV → (List (Key × DV) → Prop) → Prop
  | .dK es, K => K es
  | .ref a, K => onK (O a) K
  | _, _ => False
def dtQ (O : Own) : DV → (List (List Key × DV) → Prop) → Prop
  | .dT es, K => K es
  | .ref a, K => onT (O a) K
  | _, _ => False
theorem onK_ex {c : Option Cell} {K : List (Key × DV) → Prop} (h : onK c K) : ∃ es, c = some (.dK es) ∧ K es := by
  unfold onK at h
  split at h
  · exact ⟨_, rfl, h⟩
  · exact h.elim
theorem onT_ex {c : Option Cell} {K : List (List Key × DV) → Prop} (h : onT c K) : ∃ es, c = some (.dT es) ∧ K es := by
  unfold onT at h
  split at h
  · exact ⟨_, rfl, h⟩
  · exact h.elim
theorem dkQ_ex {O : Own} {d : DV} {K : List (Key × DV) → Prop} (h : dkQ O d K) : ∃ es, dkOf O d = some es ∧ K es := by
  unfold dkQ at h
  split at h
  · exact ⟨_, rfl, h⟩
  · rename_i a
    obtain ⟨xs, e, h⟩ := onK_ex h
    exact ⟨xs, by simp [dkOf, e], h⟩
  · exact h.elim
theorem dtQ_ex {O : Own} {d : DV} {K : List (List Key × DV) → Prop} (h : dtQ O d K) : ∃ es, dtOf O d = some es ∧ K es := by
  unfold dtQ at h
  split at h
  · exact ⟨_, rfl, h⟩
  · rename_i a
    obtain ⟨xs, e, h⟩ := onT_ex h
    exact ⟨xs, by simp [dtOf, e], h⟩
  · exact h.elim
/-- what a dict x holds at the key y -/
def findQ (O : Own) (x : DV) : DV → (Option DV → Prop) → Prop
  | .str z, K => dkQ O x fun es => K (dget es (.inr z))
  | .int i, K => dkQ O x fun es => K (dget es (.inl i))
  | .tup ds, K => onSome (keysD ds) fun k => dtQ O x fun es => K (dget es k)
  | _, _ => False
theorem findQ_ex {O : Own} {x y : DV} {K : Option DV → Prop} (h : findQ O x y K) : ∃ r, dfind O x y = some r ∧ K r := by
  unfold findQ at h
  split at h
  · obtain ⟨es, e, h⟩ := dkQ_ex h
    exact ⟨_, by simp [dfind, keyD, e], h⟩
  · obtain ⟨es, e, h⟩ := dkQ_ex h
    exact ⟨_, by simp [dfind, keyD, e], h⟩
  · obtain ⟨k, e0, h⟩ := onSome_ex h
    obtain ⟨es, e, h⟩ := dtQ_ex h
    exact ⟨_, by simp [dfind, keyD, keyTD, e, e0], h⟩
  · exact h.elim
def dDix : DR2 := fun x y O Q => findQ O x y fun r => onSome r fun d => Q d O
def dDin (neg : Bool) : DR2 := fun y x O Q => findQ O x y fun r => Q (.bl (if neg then !r.isSome else r.isSome)) O
section
variable {X : Cx} {a b : Expr} {ta tb : DTE} {pos : Pos}
theorem de_dix (hu : X.A.units + 1 < cLine) (ha : DE X a ta) (hb : DE X b tb) (hs : NoSl b := by exact fun _ _ => rfl) : DE X (.Subscript a b pos) (dOp dDix ta tb) := by
  refine ⟨PE_imp (pe_dget hu ha.pe hb.pe hs) ?_⟩
  rintro σ H VQ ⟨F, O, S, Q, rs, sr, h, fin⟩
  refine ⟨F, O, S, _, rs, sr, h, fun dx O1 h1 x H1 F1 s1 rx => ⟨F1, O1, S, _, s1.rs, sr.mono s1.sub, h1, fun dy O2 h2 y H2 F2 s2 ry => ?_⟩⟩
  obtain ⟨r, e, h2⟩ := findQ_ex h2
  obtain ⟨d, rfl, h2⟩ := onSome_ex h2
  obtain ⟨p, o, rfl, h3, h4, _⟩ := dfind_at s2.rs (rx.mono s2.sub) ry e
  obtain ⟨w', rfl, r⟩ := h4 d rfl
  exact ⟨p, w', rfl, h3, fin _ _ h2 _ H2 F2 (s1.trans s2) r⟩
theorem od_din_ {X : Cx} {f : Value → Value → Sem Value} (neg : Bool) (h : OpR X f (fun y x H Q => ∃ a o, x = .ref a ∧ DGet H a y o ∧ Q (.bl (if neg then !o.isSome else o.isSome)) H)) : OpD X f (dDin neg) := by
  refine ⟨OpR_imp h ?_⟩
  rintro y x H VQ ⟨F, O, dy, dx, Q, rs, ry, rx, h, fin⟩
  obtain ⟨r, e, h⟩ := findQ_ex h
  obtain ⟨p, o, rfl, h3, h4, h5⟩ := dfind_at rs rx ry e
  have : o.isSome = r.isSome := by
    cases r with
    | none => rw [h5 rfl]; rfl
    | some d => obtain ⟨w', rfl, _⟩ := h4 d rfl; rfl
  exact ⟨p, o, rfl, h3, by rw [this]; exact fin _ _ h _ _ F (.refl rs) (.bl _)⟩
theorem od_din (hu : X.A.units + 1 < cLine) : OpD X (compareOp .In) (dDin false) := od_din_ false fun pins s σ H y x v u Q I ry rx ⟨a, o, e, g, q⟩ => by
  subst e
  obtain rfl : u = Value.ref a := rx
  exact d_in hu I g ry fun s3 I3 => ⟨.bl o.isSome, H, I3, rfl, by simpa using q⟩
theorem od_dnin (hu : X.A.units + 1 < cLine) : OpD X (compareOp .NotIn) (dDin true) := od_din_ true fun pins s σ H y x v u Q I ry rx ⟨a, o, e, g, q⟩ => by
  subst e
  obtain rfl : u = Value.ref a := rx
  exact d_notIn hu I g ry fun s3 I3 => ⟨.bl (!o.isSome), H, I3, rfl, by simpa using q⟩
/-- d[k] = v of an owned dict -/
def dSetD : DV → DV → DV → Own → (Own → Prop) → Prop
  | .ref a, .str z, v, O, Q => onK (O a) fun es => es.length < 16000000 ∧ Q (oset O a (.dK (dput es (.inr z) v)))
  | .ref a, .int z, v, O, Q => onK (O a) fun es => es.length < 16000000 ∧ Q (oset O a (.dK (dput es (.inl z) v)))
  | .ref a, .tup ds, v, O, Q => onT (O a) fun es => onSome (keysD ds) fun k => es.length < 16000000 ∧ Q (oset O a (.dT (dput es k v)))
  | _, _, _, _, _ => False
theorem psd_dict (hu : X.A.units + 1 < cLine) : PSetD X dSetD := by
  refine ⟨fun pins s σ H o i v ov iv u VQ I ro ri rv ⟨F, O, d, e, f, Q, rs, rdo, rdi, rdv, h, fin⟩ => ?_⟩
  have key : ∀ (a : Addr) (H' : Hp) (F' : Hp) (O' : Own), o = .ref a → DPut H a i v H' → VQ H' → wpAny (model X.prog X.w) X.A (setItem ov iv u) (fun _ s' => ∃ H', Inv X pins σ H' s' ∧ VQ H') X.xe s := by
    intro a H' F' O' ea g q
    subst ea
    obtain rfl : ov = Value.ref a := ro
    exact d_setItem hu I g ri rv fun s' I' => ⟨H', I', q⟩
  have fk : ∀ {a : Addr} {k : Key}, d = .ref a → keyD e = some k → (onK (O a) fun es => es.length < 16000000 ∧ Q (oset O a (.dK (dput es k f)))) → wpAny (model X.prog X.w) X.A (setItem ov iv u) (fun _ s' => ∃ H', Inv X pins σ H' s' ∧ VQ H') X.xe s := by
    rintro a k rfl e2 h
    cases rdo
    obtain ⟨es, e1, h⟩ := onK_ex h
    obtain ⟨_, kvs, h1, r1⟩ := rs.own a _ e1
    have := keyD_at rdi e2
    subst this
    exact key a _ F O rfl (.k h1 (by rw [r1.len]; exact lc_line h.1)) (fin _ h.2 _ F (rs.write e1 ⟨_, upd_same, r1.put rdv⟩))
  unfold dSetD at h
  split at h
  · exact fk rfl rfl h
  · exact fk rfl rfl h
  · rename_i a ds
    cases rdo
    obtain ⟨es, e1, h⟩ := onT_ex h
    obtain ⟨k, e2, h⟩ := onSome_ex h
    obtain ⟨_, kvs, h1, r1⟩ := rs.own a _ e1
    obtain ⟨b, rfl, h2⟩ := keyTD_at rs rdi e2
    exact key a _ F O rfl (.t h1 h2 (by rw [r1.len]; exact lc_line h.1)) (fin _ h.2 _ F (rs.write e1 ⟨_, upd_same, r1.put rdv⟩))
  · exact h.elim
end

/-! ### displays -/
def dPairs : List (DTE × DTE) → DSt → Own → (List (DV × DV) → Own → Prop) → Prop
  | [], _, O, Q => Q [] O
  | (tk, tv) :: r, S, O, Q => tk S O fun x O1 => tv S O1 fun y O2 => dPairs r S O2 fun ps O3 => Q ((x, y) :: ps) O3
def RepVV (K : PySem.W.Frag) (F : Hp) : List (V × V) → List (DV × DV) → Prop := Paired fun p q => Rep K F p.1 q.1 ∧ Rep K F p.2 q.2
theorem RepVV.mono {K : PySem.W.Frag} {F F' : Hp} (s : Sub F F') : ∀ {x : List (V × V)} {y : List (DV × DV)}, RepVV K F x y → RepVV K F' x y
  | _, _, .nil => .nil
  | _, _, .cons h r => .cons ⟨h.1.mono s, h.2.mono s⟩ (RepVV.mono s r)
theorem liftPairs {K : PySem.W.Frag} : ∀ {trs : List (DTE × DTE)} {σ : L2.St} {H F : Hp} {O : Own} {S : DSt} {Q : List (DV × DV) → Own → Prop} {VQ : List (V × V) → Hp → Prop}, RS K F O H → SR K F σ S → dPairs trs S O Q →
    (∀ ps O', Q ps O' → ∀ vs H' F', Stp K F O H F' O' H' → RepVV K F' vs ps → VQ vs H') → tPairs (trs.map fun p => (liftE K p.1, liftE K p.2)) σ H VQ
  | [], σ, H, F, O, S, Q, VQ, rs, sr, h, fin => fin _ _ h _ H F (.refl rs) .nil
  | (tk, tv) :: r, σ, H, F, O, S, Q, VQ, rs, sr, h, fin =>
    ⟨F, O, S, _, rs, sr, h, fun x O1 h1 u H1 F1 s1 r1 => ⟨F1, O1, S, _, s1.rs, sr.mono s1.sub, h1, fun y O2 h2 w H2 F2 s2 r2 =>
      liftPairs s2.rs (sr.mono (s1.trans s2).sub) h2 fun ps O3 h3 vs H3 F3 s3 r3 => fin _ _ h3 _ H3 F3 (s1.trans (s2.trans s3)) (.cons ⟨r1.mono (s2.trans s3).sub, r2.mono s3.sub⟩ r3)⟩⟩
structure DPPs (X : Cx) (pos : Pos) (keys : List (Option Expr)) (values : List Expr) (trs : List (DTE × DTE)) : Prop where
  pps : PPs X pos keys values (trs.map fun p => (liftE X.K p.1, liftE X.K p.2))
def kvsOf : List (DV × DV) → Option (List (Key × DV))
  | [] => some []
  | (k, v) :: r => match keyD k, kvsOf r with
    | some k', some r' => some ((k', v) :: r')
    | _, _ => none
theorem kvsOf_at {K : PySem.W.Frag} {F : Hp} : ∀ {vs : List (V × V)} {ps : List (DV × DV)} {es : List (Key × DV)}, RepVV K F vs ps → kvsOf ps = some es → ∃ kvs, vs = kvs.map (fun kv => (kV kv.1, kv.2)) ∧ RepK K F kvs es
  | _, _, _, .nil, h => by cases h; exact ⟨[], rfl, .nil⟩
  | _, _, _, .cons (a := (p1, p2)) (b := (a, b)) r q, h => by
    unfold kvsOf at h
    split at h
    · rename_i k' r' e1 e2
      cases h
      obtain ⟨kvs, h1, h2⟩ := kvsOf_at q e2
      have := keyD_at r.1 e1
      subst h1
      have this : p1 = kV k' := this
      subst this
      exact ⟨(k', p2) :: kvs, rfl, .cons r.2 h2⟩
    · cases h
/-- {k: v, ..}, owned -/
def dDisp (trs : List (DTE × DTE)) (S : DSt) (O : Own) (Q : DVK) : Prop := dPairs trs S O fun ps O1 => onSome (kvsOf ps) fun es => es.length ≤ 15 ∧ ∀ p, O1 p = none → Q (.ref p) (oset O1 p (.dK (dmerge [] es)))
section
variable {X : Cx} {pos : Pos}
theorem dpp_nil : DPPs X pos [] [] [] := ⟨pps_nil⟩
theorem dpp_cons {k v : Expr} {ks : List (Option Expr)} {vs : List Expr} {tk tv : DTE} {trs : List (DTE × DTE)} (hk : DE X k tk) (hv : DE X v tv) (hr : DPPs X pos ks vs trs) : DPPs X pos (some k :: ks) (v :: vs) ((tk, tv) :: trs) := ⟨pps_cons hk.pe hv.pe hr.pps⟩
theorem de_disp {keys : List (Option Expr)} {values : List Expr} {trs : List (DTE × DTE)} (h : DPPs X pos keys values trs) (hall : keys.all (·.isSome) = true := by rfl) (hl : keys.length = values.length := by rfl) (h0 : keys ≠ [] := by exact fun z => nomatch z)
    (h15 : keys.length ≤ 15 := by decide) : DE X (.Dict keys values pos) (dDisp trs) := by
  refine ⟨PE_imp (pe_disp h.pps hall hl h0 h15) ?_⟩
  rintro σ H VQ ⟨F, O, S, Q, rs, sr, h, fin⟩ p hp
  obtain ⟨hf, ho⟩ := rs.free hp
  have s0 := (Stp.refl rs).side hp hf ho (.dK [])
  refine liftPairs s0.rs sr h fun ps O1 h1 vs H1 F1 s1 r1 => ?_
  obtain ⟨es, e, h1⟩ := onSome_ex h1
  · obtain ⟨kvs, h2, r2⟩ := kvsOf_at r1 e
    obtain ⟨k1, k2⟩ := s1.keep p _ upd_same ho
    have k3 := s1.nof p _ upd_same ho hf
    refine ⟨k1, kvs, h2, by rw [r2.len]; exact h1.1, fin _ _ (h1.2 p k2) _ _ F1 ⟨s1.sub, ⟨fun b u e => ?_, fun b c e => ?_⟩, fun b u q1 q2 => ?_, fun b u q1 q2 q3 => ?_⟩ (.ref p)⟩
    · have hb : b ≠ p := fun z => by subst z; rw [k3] at e; cases e
      rw [upd_ne hb]; exact s1.rs.fro b u e
    · by_cases hb : b = p
      · subst hb; rw [oset_same] at e; cases e
        exact ⟨k3, _, upd_same, RepK.merge r2 .nil⟩
      · rw [oset_ne hb] at e
        obtain ⟨h3, h4⟩ := s1.rs.own b c e
        exact ⟨h3, h4.mono (Sub.refl _) (upd_ne hb)⟩
    · have hb : b ≠ p := fun z => by subst z; rw [hp] at q1; cases q1
      obtain ⟨z1, z2⟩ := s1.keep b u (by rw [upd_ne hb]; exact q1) q2
      exact ⟨by rw [upd_ne hb]; exact z1, by rw [oset_ne hb]; exact z2⟩
    · have hb : b ≠ p := fun z => by subst z; rw [hp] at q1; cases q1
      exact s1.nof b u (by rw [upd_ne hb]; exact q1) q2 q3
def dDNew (c : Cell) (u0_ : DSt) (O : Own) (Q : DVK) : Prop := ∀ p, O p = none → Q (.ref p) (oset O p c)
theorem de_dnewK : DE X (.Dict [] [] pos) (dDNew (.dK [])) := by
  refine ⟨PE_imp pe_dnewK ?_⟩
  rintro σ H VQ ⟨F, O, S, Q, rs, sr, h, fin⟩ p hp
  exact fin _ _ (h p (rs.free hp).2) _ _ F (rs.newO hp ⟨_, upd_same, .nil⟩) (.ref p)
theorem de_dnewT : DE X (.Dict [] [] pos) (dDNew (.dT [])) := by
  refine ⟨PE_imp pe_dnewT ?_⟩
  rintro σ H VQ ⟨F, O, S, Q, rs, sr, h, fin⟩ p hp
  exact fin _ _ (h p (rs.free hp).2) _ _ F (rs.newO hp ⟨_, upd_same, .nil⟩) (.ref p)
end

/-! ### d.update(e) -/
def rUpd : V → List V → Hp → VK → Prop := fun x xs H Q => ∃ a b kvs more, x = .ref a ∧ xs = [.ref b] ∧ a ≠ b ∧ H a = some (.dK kvs) ∧ Rd H b (.dK more) ∧ kvs.length + more.length ≤ sizeLine ∧ Q .non (upd H a (.dK (mergeK kvs more)))
theorem mt_update {X : Cx} : MtR X "dict.update" rUpd := by
  intro pins s σ H x xs v us Q I rx rxs h
  obtain ⟨a, b, kvs, more, rfl, rfl, hab, ha, hb, hz, q⟩ := h
  obtain rfl : v = Value.ref a := rx
  obtain ⟨u, rfl, ru⟩ := rxs.one
  obtain rfl : u = Value.ref b := ru
  obtain ⟨z, hd, vs, rel, dd⟩ := dk_of I.hok ha
  obtain ⟨z2, hd2, vs2, rel2, dd2⟩ := dk_rd I.hok hb
  refine call_meetsIn PySem.F.slot_dict_update dd.typeIs PySem.F.entry_dict_update (PySem.F.args_dict_update_2 _ _) (meets_dict_update (mixKind X.prog X.w) a b hab hd2) ⟨vs, vs2, dd, dd2, by rw [← rel.length, ← rel2.length]; exact hz, fun h' dd' _ hs => ?_⟩
  have he : ∃ q, h'.get? a = some q := let ⟨q, _, _, hq, _⟩ := dd'; ⟨q, hq⟩
  have hz' : (mergeK kvs more).length ≤ sizeLine := Nat.le_trans (length_mergeK more kvs) hz
  exact ⟨.non, _, d_write (t' := s.toks) I (by rw [ha]; exact True.intro) hs he (dk_new hz' hd (KV.merge rel2 rel) dd'), rfl, q⟩
def apart (a : Addr) : DV → Prop
  | .ref b => a ≠ b
  | _ => True
def dUpd : DV → List DV → Own → DVK → Prop
  | .ref a, [d], O, Q => onK (O a) fun es => dkQ O d fun em => apart a d ∧ es.length + em.length ≤ 1000000 ∧ Q .non (oset O a (.dK (dmerge es em)))
  | _, _, _, _ => False
theorem md_update {X : Cx} (_ : X.A.units + 1 < cLine) : MtD X "dict.update" dUpd := by
  refine ⟨MtR_imp mt_update ?_⟩
  rintro x xs H VQ ⟨F, O, d, ds, Q, rs, rx, rr, h, fin⟩
  unfold dUpd at h
  split at h
  · rename_i a y
    cases rx
    obtain ⟨v, rfl, ry⟩ := rr.one
    obtain ⟨es, e1, h⟩ := onK_ex h
    obtain ⟨em, e2, h⟩ := dkQ_ex h
    · obtain ⟨hf, kvs, h1, r1⟩ := rs.own a _ e1
      obtain ⟨b, more, rfl, h2, r2⟩ := dkOf_at rs ry e2
      refine ⟨a, b, kvs, more, rfl, rfl, ?_, h1, h2, ?_, fin _ _ h.2.2 _ _ F (rs.write e1 ⟨_, upd_same, RepK.merge r2 r1⟩) .non⟩
      · cases ry with
        | ref b => exact h.1
        | dK e _ => intro z; subst z; rw [hf] at e; cases e
        | _ => cases e2
      · rw [r1.len, r2.len]
        have := sizeLine_eq
        have := h.2.1
        omega
  · exact h.elim

/-! ### text * int -/
def repS (x : Str) (n : Int) : Str := ⟨(List.replicate n.toNat (tl x)).flatten.toArray⟩
theorem mul_repS (x : Str) (n : Int) : Txt.mul x n = repS x n := by
  apply ext_tl
  unfold Txt.mul repS
  by_cases h1 : n < 1
  · rw [if_pos h1]
    have : n.toNat = 0 := by omega
    rw [this]; rfl
  · rw [if_neg h1]
    by_cases h2 : (n == 1 || x.length == 0) = true
    · rw [if_pos h2]
      rcases Bool.or_eq_true_iff.mp h2 with h3 | h3
      · have : n = 1 := by simpa using h3
        subst this
        simp [TL.tl]
      · have : tl x = [] := (TL.len0_tl x).mp (by simpa using h3)
        rw [this]; simp [TL.tl]
    · rw [if_neg h2]
      have key : ∀ (k : Nat) (acc : Array Nat), (List.foldl (fun x1 x2 => x1 ++ x2) acc (List.replicate k x.cps)).toList = acc.toList ++ (List.replicate k x.cps.toList).flatten := by
        intro k
        induction k with
        | zero => intro acc; simp
        | succ k ih => intro acc; rw [List.replicate_succ, List.foldl_cons, ih, List.replicate_succ, List.flatten_cons]; simp
      show (List.foldl (fun x1 x2 => x1 ++ x2) #[] (List.replicate n.toNat x.cps)).toList = _
      rw [key]; simp [TL.tl]
def dMulS : DV → DV → Own → DVK → Prop
  | .str z, .int n, O, Q => (n < 1000000 ∧ -1000000 < n ∧ z.length < 8) ∧ Q (.str (repS z n)) O
  | _, _, _, _ => False
theorem od_mulS {X : Cx} : OpD X (binaryOp .Mult) dMulS := by
  refine ⟨fun pins s σ H x y v u VQ I rx ry h => ?_⟩
  obtain ⟨F, O, dx, dy, Q, rs, rdx, rdy, h, fin⟩ := h
  unfold dMulS at h
  split at h
  · rename_i z n
    cases rdx; cases rdy
    obtain ⟨⟨c1, c2, c3⟩, q⟩ := h
    obtain ⟨t, rfl⟩ := rx
    obtain ⟨t', rfl⟩ := ry
    refine SB.mul (n := n) ⟨?_, fun h1 _ => ?_, fun h1 _ => ?_⟩ fun t2 k => ?_
    · have h1 : ¬ n < -(2 ^ 63 : Int) := by omega
      have h2 : ¬ n ≥ 2 ^ 63 := by omega
      rw [decide_eq_false h1, decide_eq_false h2]; rfl
    · intro h3
      have h4 : (2 ^ 63 - 1) / 1000000 ≤ (2 ^ 63 - 1) / n := by
        have : (0 : Int) < n := by omega
        have h5 : n * ((2 ^ 63 - 1) / 1000000) ≤ 2 ^ 63 - 1 := by
          have : ((2 : Int) ^ 63 - 1) / 1000000 = 9223372036854 := by decide
          rw [this]; omega
        exact (Int.le_ediv_iff_mul_le this).mpr (by rw [Int.mul_comm]; exact h5)
      have h6 : ((2 : Int) ^ 63 - 1) / 1000000 = 9223372036854 := by decide
      omega
    · show Builtin.Str.tooLong _ = false
      have hb : z.length * n.toNat ≤ 7 * 1000000 := Nat.mul_le_mul (by omega) (by omega)
      unfold Builtin.Str.tooLong
      simp only [decide_eq_false_iff_not]
      have := sizeLine_eq
      omega
    · rw [mul_repS]
      exact ⟨.str _, H, I.tok _, ⟨_, rfl⟩, fin _ _ q _ _ F (.refl rs) (.str _)⟩
  · exact h.elim
end DL

set_option Elab.async false
set_option linter.all false
set_option maxRecDepth 100000
/-! DTwo: a list comprehension of two clauses, over data. -/
namespace DL
open PySem PySem.Spec PyProof.Rows L2 TL

def lcG (b : DV → DSt → Option DSt) (tt : DTT) (te : DTE) (S : DSt) (R : List DV → Own → Prop) : List DV → List DV → Own → Prop
  | [], acc, O => R acc O
  | x :: r, acc, O => onSome (b x S) fun S2 => tt S2 O fun c O2 => if c = true then te S2 O2 fun y O3 => acc.length < 16000000 ∧ lcG b tt te S R r (acc ++ [y]) O3 else lcG b tt te S R r acc O2
def lc2W (ow : Bool) (b : DV → DSt → Option DSt) (tt : DTT) (di1 : DTI) (b1 : DV → DSt → Option DSt) (tt1 : DTT) (te : DTE) (vs1 : List Nat) (S : DSt) (Q : DVK) : List DV → List DV → Own → Prop
  | [], acc, O => endLc ow Q acc O
  | x :: r, acc, O => onSome (b x S) fun S2 => tt S2 O fun c O2 => if c = true then di1 S2 O2 fun ds1 O3 => lcG b1 tt1 te (dwipe S2 vs1) (lc2W ow b tt di1 b1 tt1 te vs1 S Q r) ds1 acc O3 else lc2W ow b tt di1 b1 tt1 te vs1 S Q r acc O2
def dLc2 (ow : Bool) (di : DTI) (b : DV → DSt → Option DSt) (tt : DTT) (di1 : DTI) (b1 : DV → DSt → Option DSt) (tt1 : DTT) (te : DTE) (vs vs1 : List Nat) (S : DSt) (O : Own) (Q : DVK) : Prop := di S O fun ds O1 => lc2W ow b tt di1 b1 tt1 te vs1 (dwipe S vs) Q ds [] O1
theorem Stp.freezeSide {K : PySem.W.Frag} {F H F' H' : Hp} {O O' : Own} {D : Addr} {o : HO} (s' : Stp K F O H F' O' H') (hD : H D = none) (hd' : H' D = some o) (hf' : F' D = none) (ho' : O' D = none) : Stp K F O H (upd F' D o) O' H' := by
  refine ⟨s'.sub.trans (Sub.upd hf'), ⟨fun b u e => ?_, fun b c e => ?_⟩, s'.keep, fun b u h1 h2 h3 => ?_⟩
  · by_cases hb : b = D
    · subst hb; rw [upd_same] at e; cases e; exact .inl hd'
    · rw [upd_ne hb] at e; exact s'.rs.fro b u e
  · have hb : b ≠ D := fun z => by subst z; rw [ho'] at e; cases e
    obtain ⟨h3, h4⟩ := s'.rs.own b c e
    exact ⟨by rw [upd_ne hb]; exact h3, h4.mono (Sub.upd hf') rfl⟩
  · rw [upd_ne (fun z => by subst z; rw [hD] at h1; cases h1)]; exact s'.nof b u h1 h2 h3
theorem liftLc2 {K : PySem.W.Frag} {ow : Bool} {di di1 : DTI} {g g1 : TG} {b b1 : DV → DSt → Option DSt} {tt tt1 : DTT} {te : DTE} {vs vs1 : List Nat} (hg : TgtOk K g b vs) (hg1 : TgtOk K g1 b1 vs1) {σ : L2.St} {H : Hp} {VQ : VK} (h : liftE K (dLc2 ow di b tt di1 b1 tt1 te vs vs1) σ H VQ) :
    tLc2 (liftI K di) g (liftT K tt) (liftI K di1) g1 (liftT K tt1) (liftE K te) vs vs1 σ H VQ := by
  obtain ⟨F, O, S, Q, rs, sr, h, fin⟩ := h
  refine ⟨F, O, S, _, rs, sr, h, fun ds O1 h1 J H1 F1 s1 y D hD => ?_⟩
  obtain ⟨hf1, ho1⟩ := s1.rs.free hD
  let Wd (R : List DV → Own → Prop) (H' : Hp) : Prop := ∃ F' O' acc vacc, Stp K F1 O1 H1 F' O' H' ∧ H' D = some (.lst vacc) ∧ F' D = none ∧ O' D = none ∧ Reps K F' vacc acc ∧ R acc O'
  refine ⟨fun i m H' => m = ds.length - i ∧ Wd (lc2W ow b tt di1 b1 tt1 te vs1 (dwipe S vs) Q (ds.drop i)) H',
    ⟨_, rfl, F1, O1, [], [], (Stp.refl s1.rs).side hD hf1 ho1 _, upd_same, hf1, ho1, .nil, h1⟩, ?_⟩
  rintro i m H' ⟨em, F', O', acc, vacc, s', hd', hf', ho', ra, h'⟩
  obtain ⟨y1, y2⟩ := y i O' H' F' s'.sub s'.rs
  by_cases hi : i < ds.length
  · have e0 : ds[i]? = some ds[i] := List.getElem?_eq_getElem hi
    rw [List.drop_eq_getElem_cons hi] at h'
    obtain ⟨hgo, hy⟩ := y1 _ e0
    refine .inr ⟨hgo, fun H2 => Wd (lc2W ow b tt di1 b1 tt1 te vs1 (dwipe S vs) Q (ds.drop (i + 1))) H2, fun H2 q => ⟨_, ?_, rfl, q⟩, fun x H2 q => ?_⟩
    · omega
    · obtain ⟨F3, s3, r3⟩ := hy x H2 q
      unfold lc2W at h'
      obtain ⟨S2, e2, h'⟩ := onSome_ex h'
      · refine hg.ok s3.rs r3 (((sr.mono s1.sub).mono s'.sub).mono s3.sub |>.wipe vs) e2 fun σ2 sr2 ew => ⟨ew.trans (wipe_wipe fun _ h => h), F3, O', S2, _, s3.rs, sr2, h', fun c O4 h4 H4 F4 s4 => ?_⟩
        have st4 := s3.trans s4
        dsimp only at h4 ⊢
        split
        · rename_i e; rw [if_pos e] at h4
          refine ⟨F4, O4, S2, _, s4.rs, sr2.mono s4.sub, h4, fun ds1 O5 h5 J1 H5 F5 s5 z => ?_⟩
          have st5 := st4.trans s5
          obtain ⟨k1, k2⟩ := st5.keep D _ hd' ho'
          have k3 := st5.nof D _ hd' ho' hf'
          -- the inner loop
          refine ⟨fun j k H' => k = ds1.length - j ∧ ∃ F' O' acc vacc, Stp K F1 O1 H1 F' O' H' ∧ Sub F5 F' ∧ H' D = some (.lst vacc) ∧ F' D = none ∧ O' D = none ∧ Reps K F' vacc acc ∧ lcG b1 tt1 te (dwipe S2 vs1) (lc2W ow b tt di1 b1 tt1 te vs1 (dwipe S vs) Q (ds.drop (i + 1))) (ds1.drop j) acc O',
            ⟨_, rfl, F5, O5, acc, vacc, s'.trans st5, Sub.refl _, k1, k3, k2, ra.mono st5.sub, h5⟩, ?_⟩
          rintro j k H6 ⟨ek, F6, O6, acc6, vacc6, s6, sb6, hd6, hf6, ho6, ra6, h6⟩
          obtain ⟨z1, z2⟩ := z j O6 H6 F6 sb6 s6.rs
          by_cases hj : j < ds1.length
          · have e1 : ds1[j]? = some ds1[j] := List.getElem?_eq_getElem hj
            rw [List.drop_eq_getElem_cons hj] at h6
            obtain ⟨hgo1, hy1⟩ := z1 _ e1
            refine .inr ⟨hgo1, fun H' => ∃ F' O' acc vacc, Stp K F1 O1 H1 F' O' H' ∧ Sub F5 F' ∧ H' D = some (.lst vacc) ∧ F' D = none ∧ O' D = none ∧ Reps K F' vacc acc ∧ lcG b1 tt1 te (dwipe S2 vs1) (lc2W ow b tt di1 b1 tt1 te vs1 (dwipe S vs) Q (ds.drop (i + 1))) (ds1.drop (j + 1)) acc O', fun H2 q => ⟨_, ?_, rfl, q⟩, fun x H7 q => ?_⟩
            · omega
            · obtain ⟨F7, s7, r7⟩ := hy1 x H7 q
              unfold lcG at h6
              obtain ⟨S3, e3, h6⟩ := onSome_ex h6
              · refine hg1.ok s7.rs r7 ((sr2.mono s4.sub).mono (s5.sub.trans (sb6.trans s7.sub)) |>.wipe vs1) e3 fun σ3 sr3 ew3 => ⟨ew3.trans (wipe_wipe fun _ h => h), F7, O6, S3, _, s7.rs, sr3, h6, fun c8 O8 h8 H8 F8 s8 => ?_⟩
                have st8 := s7.trans s8
                dsimp only at h8 ⊢
                split
                · rename_i e; rw [if_pos e] at h8
                  refine ⟨F8, O8, S3, _, s8.rs, sr3.mono s8.sub, h8, fun d O9 h9 v H9 F9 s9 r9 => ?_⟩
                  have st9 := st8.trans s9
                  obtain ⟨k1, k2⟩ := st9.keep D _ hd6 ho6
                  have k3 := st9.nof D _ hd6 ho6 hf6
                  exact ⟨vacc6, k1, by rw [ra6.len]; exact lc_line h9.1, F9, O9, _, _, (s6.trans st9).side hD k3 k2 _, sb6.trans st9.sub, upd_same, k3, k2, (ra6.mono st9.sub).append (.cons r9 .nil), h9.2⟩
                · rename_i e; rw [if_neg e] at h8
                  obtain ⟨k1, k2⟩ := st8.keep D _ hd6 ho6
                  have k3 := st8.nof D _ hd6 ho6 hf6
                  exact ⟨F8, O8, acc6, vacc6, s6.trans st8, sb6.trans st8.sub, k1, k3, k2, ra6.mono st8.sub, h8⟩
          · have e9 : ds1.drop j = [] := List.drop_eq_nil_of_le (by omega)
            rw [e9] at h6
            exact .inl ⟨z2 (by omega), F6, O6, acc6, vacc6, s6, hd6, hf6, ho6, ra6, h6⟩
        · rename_i e; rw [if_neg e] at h4
          obtain ⟨k1, k2⟩ := st4.keep D _ hd' ho'
          have k3 := st4.nof D _ hd' ho' hf'
          exact ⟨F4, O4, acc, vacc, s'.trans st4, k1, k3, k2, ra.mono st4.sub, h4⟩
  · rw [List.drop_eq_nil_of_le (by omega)] at h'
    exact .inl ⟨y2 (by omega), endLc_ok s' hD hd' hf' ho' ra h' (fin.step s1)⟩
section
variable {X : Cx}
theorem de_lc2 (ow : Bool) {elt tg iter tg1 iter1 : Expr} {ifs ifs1 : List Expr} {scope : Scope} {own : List (Str × Nat)} {vs1 : List Nat} {pos : Pos} {di di1 : DTI} {g g1 : TG} {b b1 : DV → DSt → Option DSt} {tt tt1 : DTT} {te : DTE} (hc : X.calm = true) (hN : X.N.Nodup) (hi : DI X tg iter di) (ok : BlkOk X.N X.env.scope scope own) (hv : ∀ i ∈ vs1, i ∈ own.map (·.2))
    (hT : TgtOk X.K g b (own.map (·.2))) (hT1 : TgtOk X.K g1 b1 vs1)
    (hg : ∀ (s : Shared) (H : Hp) (C : Addr) (cl : List (Str × Addr)) (fp : List Addr), PG (X.blk s H scope (compEnvC scope cl C X.env) fp) tg g) (ht : ∀ (s : Shared) (H : Hp) (C : Addr) (cl : List (Str × Addr)) (fp : List Addr), DTs (X.blk s H scope (compEnvC scope cl C X.env) fp) ifs tt)
    (hi1 : ∀ (s : Shared) (H : Hp) (C : Addr) (cl : List (Str × Addr)) (fp : List Addr), DI (X.blk s H scope (compEnvC scope cl C X.env) fp) tg1 iter1 di1)
    (hg1 : ∀ (s : Shared) (H : Hp) (C : Addr) (cl : List (Str × Addr)) (fp : List Addr), PG (X.blk s H scope (compEnvC scope cl C X.env) fp) tg1 g1) (ht1 : ∀ (s : Shared) (H : Hp) (C : Addr) (cl : List (Str × Addr)) (fp : List Addr), DTs (X.blk s H scope (compEnvC scope cl C X.env) fp) ifs1 tt1)
    (he : ∀ (s : Shared) (H : Hp) (C : Addr) (cl : List (Str × Addr)) (fp : List Addr), DE (X.blk s H scope (compEnvC scope cl C X.env) fp) elt te) (hs : ∀ x, foldedSetIterable iter X.env x = pure x := by intro _; rfl) (hs1 : ∀ env x, foldedSetIterable iter1 env x = pure x := by intro _ _; rfl) :
    DE X (.ListComp elt [⟨tg, iter, ifs, 0⟩, ⟨tg1, iter1, ifs1, 0⟩] scope pos) (dLc2 ow di b tt di1 b1 tt1 te (own.map (·.2)) vs1) :=
  ⟨PE_imp (pe_lc2 (te := liftE X.K te) (tt := liftT X.K tt) (tt1 := liftT X.K tt1) (wi1 := liftI X.K di1) hc hN hi.pi ok hv hg (fun s H C cl fp => (ht s H C cl fp).pts) (fun s H C cl fp => (hi1 s H C cl fp).pi) hg1 (fun s H C cl fp => (ht1 s H C cl fp).pts) (fun s H C cl fp => (he s H C cl fp).pe) hs hs1) fun _ _ _ h => liftLc2 hT hT1 h⟩
end
end DL

namespace DL
open PySem PySem.Spec PyProof.Rows L2 TL
/-- the text keys of a written dict -/
def KeyList : List DictEntry → List Str → Prop
  | [], [] => True
  | e :: es, x :: xs => (∃ t, e.key = .str x t) ∧ KeyList es xs
  | _, _ => False
theorem keyList_find : ∀ {es : List DictEntry} {xs : List Str} (z : Str), KeyList es xs → (es.find? (·.key.isStr z)).isSome = decide (z ∈ xs) ∧ es.any (·.refKey) = false
  | [], [], z, _ => by simp
  | e :: es, x :: xs, z, ⟨⟨t, h⟩, q⟩ => by
    obtain ⟨h1, h2⟩ := keyList_find z q
    have hk : e.key.isStr z = decide (x = z) := by
      rw [h]
      show (x == z) = _
      by_cases e : x = z
      · subst e; simp
      · rw [decide_eq_false e]; exact beq_eq_false_iff_ne.mpr e
    have hr : e.refKey = false := by unfold DictEntry.refKey; rw [h]
    refine ⟨?_, by simp [hr, h2]⟩
    rw [List.find?_cons, hk]
    by_cases e0 : x = z
    · simp [e0]
    · have e1 : ¬ z = x := fun w => e0 w.symm
      simp [e0, e1, h1]
  | [], _ :: _, _, h => h.elim
  | _ :: _, [], _, h => h.elim
/-- x in a dict of the module that has these text keys -/
def dInL (a : Addr) (xs : List Str) : DV → DV → Own → DVK → Prop
  | .str z, .ref b, O, Q => b = a ∧ Q (.bl (decide (z ∈ xs))) O
  | _, _, _, _ => False
theorem od_inL {X : Cx} {a : Addr} {es : Array DictEntry} {n : Nat} {xs : List Str} (D : KDict X.K X.w a es n) (hx : KeyList es.toList xs) : OpD X (compareOp .In) (dInL a xs) := by
  refine ⟨OpR_imp (od_inK D).op ?_⟩
  rintro x y H VQ ⟨F, O, dx, dy, Q, rs, rx, ry, h, fin⟩
  refine ⟨F, O, dx, dy, Q, rs, rx, ry, ?_, fin⟩
  unfold dInL at h
  split at h
  · rename_i z b
    obtain ⟨rfl, h⟩ := h
    obtain ⟨h1, h2⟩ := keyList_find z hx
    refine ⟨rfl, (es.toList.find? (·.key.isStr z)).map (·.val), ?_, ?_⟩
    · unfold PySem.W.nsIn
      rw [D.at_]
      dsimp only
      cases e : es.toList.find? (·.key.isStr z) with
      | some v => rfl
      | none => simp [h2]
    · have e : ((es.toList.find? (·.key.isStr z)).map (·.val)).isSome = decide (z ∈ xs) := by rw [← h1]; cases es.toList.find? (·.key.isStr z) <;> rfl
      rw [e]
      simpa using h
  · exact h.elim
end DL

set_option Elab.async false
set_option linter.all false
set_option maxRecDepth 100000
/-! DMath: small facts about texts, places, lists. -/
namespace DL
open PySem PySem.Spec PyProof.Rows L2 TL

abbrev ofL (l : List Nat) : Str := ⟨l.toArray⟩
theorem tl_ofL (l : List Nat) : tl (ofL l) = l := rfl
theorem ofL_tl (x : Str) : ofL (tl x) = x := mk_tl x
theorem ofL_inj {a b : List Nat} (h : ofL a = ofL b) : a = b := by
  have := congrArg tl h
  simpa using this
theorem str_ext {x y : Str} : x = y ↔ tl x = tl y := ⟨fun h => h ▸ rfl, ext_tl⟩
theorem ofL_app (a b : List Nat) : ofL a ++ ofL b = ofL (a ++ b) := ext_tl (by rw [tl_append])
theorem app_ofL (x y : Str) : x ++ y = ofL (tl x ++ tl y) := ext_tl (by rw [tl_append])
theorem ofL_len (l : List Nat) : (ofL l).length = l.length := by rw [len_tl]
theorem line_of {n : Nat} (h : n ≤ 16000000) : n ≤ sizeLine := by
  have := sizeLine_eq
  omega
theorem atI_pos {α : Type} {l : List α} {i : Int} (h : 0 ≤ i) : atI l i = l[i.toNat]? := by
  unfold atI ixN
  rw [if_pos h]
  split
  · rfl
  · rename_i q
    rw [List.getElem?_eq_none (by omega)]; rfl
theorem atI_nat_ {α : Type} {l : List α} (i : Nat) : atI l (i : Int) = l[i]? := by
  rw [atI_pos (Int.natCast_nonneg i)]; rfl
theorem atI_neg1 {α : Type} {l : List α} (h : l ≠ []) : atI l (-1) = l.getLast? := by
  unfold atI ixN
  have hl : 0 < l.length := List.length_pos_iff.mpr h
  rw [if_neg (by decide), if_pos (by omega)]
  have e : (-1 + (l.length : Int)).toNat = l.length - 1 := by omega
  show l[(-1 + (l.length : Int)).toNat]? = _
  rw [e, List.getLast?_eq_getElem?]
theorem cut_int {z : Str} {i j : Int} (hi : 0 ≤ i) (hj : 0 ≤ j) : cutS z (some i) (some j) = ofL (((tl z).drop i.toNat).take (j.toNat - i.toNat)) := by
  apply ext_tl
  unfold cutS
  rw [len_tl]
  have e1 : HT.sIx (tl z).length 0 (some i) = min i.toNat (tl z).length := by
    show (if i < 0 then _ else min i.toNat (tl z).length) = _
    rw [if_neg (by omega)]
  have e2 : HT.sIx (tl z).length (tl z).length (some j) = min j.toNat (tl z).length := by
    show (if j < 0 then _ else min j.toNat (tl z).length) = _
    rw [if_neg (by omega)]
  rw [e1, e2]
  show ((tl z).drop _).take _ = ((tl z).drop i.toNat).take (j.toNat - i.toNat)
  by_cases h : (tl z).length ≤ i.toNat
  · rw [Nat.min_eq_right h, List.drop_eq_nil_of_le (Nat.le_refl _), List.drop_eq_nil_of_le h]; simp
  · have m1 : min i.toNat (tl z).length = i.toNat := by omega
    rw [m1]
    by_cases h2 : j.toNat ≤ (tl z).length
    · rw [Nat.min_eq_left h2]
    · have m2 : min j.toNat (tl z).length = (tl z).length := by omega
      rw [m2]
      rw [List.take_of_length_le (by rw [List.length_drop]; omega), List.take_of_length_le (by rw [List.length_drop]; omega)]
theorem ite_t {A B : Prop} {c : Prop} [Decidable c] (h : c) (x : A) : if c then A else B := by rw [if_pos h]; exact x
theorem ite_f {A B : Prop} {c : Prop} [Decidable c] (h : ¬ c) (x : B) : if c then A else B := by rw [if_neg h]; exact x
theorem ite_c {A B : Prop} {c : Prop} [Decidable c] (h : c → A) (h2 : ¬ c → B) : if c then A else B := by
  by_cases q : c
  · rw [if_pos q]; exact h q
  · rw [if_neg q]; exact h2 q
end DL
namespace DL
open PySem PySem.Spec PyProof.Rows L2 TL
theorem tl_one (c : Nat) : tl (⟨#[c]⟩ : Str) = [c] := rfl
end DL
namespace DL
open PySem PySem.Spec PyProof.Rows L2 TL
/-- a comprehension whose turns change nothing owned -/
theorem lcW_pure {ow : Bool} {b : DV → DSt → Option DSt} {te : DTE} {S : DSt} {Q : DVK} {O : Own} : ∀ (xs ys acc : List DV), xs.length = ys.length → acc.length + xs.length < 16000000 →
    (∀ (i : Nat) (x y : DV), xs[i]? = some x → ys[i]? = some y → ∀ K : DVK, K y O → onSome (b x S) fun S2 => te S2 O K) → endLc ow Q (acc ++ ys) O → lcW ow b dYes te S Q xs acc O
  | [], [], acc, _, _, _, h => by rw [List.append_nil] at h; exact h
  | [], _ :: _, _, h, _, _, _ => by cases h
  | _ :: _, [], _, h, _, _, _ => by cases h
  | x :: xs, y :: ys, acc, hl, ha, hs, h => by
    have h1 := hs 0 x y rfl rfl (fun y' O3 => acc.length < 16000000 ∧ lcW ow b dYes te S Q xs (acc ++ [y']) O3) ⟨by omega, ?_⟩
    · unfold lcW
      obtain ⟨S2, e, h2⟩ := onSome_ex h1
      exact onSome_of e h2
    · refine lcW_pure xs ys (acc ++ [y]) (by simpa using hl) (by simp at *; omega) (fun i x y e1 e2 => hs (i + 1) x y (by simpa using e1) (by simpa using e2)) ?_
      rw [List.append_assoc]; exact h
theorem lcG_pure {b : DV → DSt → Option DSt} {te : DTE} {S : DSt} {R : List DV → Own → Prop} {O : Own} : ∀ (xs ys acc : List DV), xs.length = ys.length → acc.length + xs.length < 16000000 →
    (∀ (i : Nat) (x y : DV), xs[i]? = some x → ys[i]? = some y → ∀ K : DVK, K y O → onSome (b x S) fun S2 => te S2 O K) → R (acc ++ ys) O → lcG b dYes te S R xs acc O
  | [], [], acc, _, _, _, h => by rw [List.append_nil] at h; exact h
  | [], _ :: _, _, h, _, _, _ => by cases h
  | _ :: _, [], _, h, _, _, _ => by cases h
  | x :: xs, y :: ys, acc, hl, ha, hs, h => by
    have h1 := hs 0 x y rfl rfl (fun y' O3 => acc.length < 16000000 ∧ lcG b dYes te S R xs (acc ++ [y']) O3) ⟨by omega, ?_⟩
    · unfold lcG
      obtain ⟨S2, e, h2⟩ := onSome_ex h1
      exact onSome_of e h2
    · refine lcG_pure xs ys (acc ++ [y]) (by simpa using hl) (by simp at *; omega) (fun i x y e1 e2 => hs (i + 1) x y (by simpa using e1) (by simpa using e2)) ?_
      rw [List.append_assoc]; exact h
end DL
namespace DL
open PySem PySem.Spec PyProof.Rows L2 TL
section
variable {α : Type} {l : List α} {n : Nat}
theorem atI_0 : atI l 0 = l[0]? := atI_nat_ 0
theorem atI_1 : atI l 1 = l[1]? := atI_nat_ 1
theorem atI_2 : atI l 2 = l[2]? := atI_nat_ 2
theorem atI_3 : atI l 3 = l[3]? := atI_nat_ 3
theorem atI_4 : atI l 4 = l[4]? := atI_nat_ 4
theorem atI_5 : atI l 5 = l[5]? := atI_nat_ 5
theorem atI_6 : atI l 6 = l[6]? := atI_nat_ 6
theorem atI_7 : atI l 7 = l[7]? := atI_nat_ 7
theorem ixN_nat {k : Nat} (h : k < n) : ixN n (k : Int) = some k := by
  unfold ixN
  rw [if_pos (by omega), if_pos (by omega)]; rfl
theorem ixN_0 : ixN (n + 1) 0 = some 0 := ixN_nat (k := 0) (by omega)
theorem ixN_1 : ixN (n + 2) 1 = some 1 := ixN_nat (k := 1) (by omega)
theorem ixN_2 : ixN (n + 3) 2 = some 2 := ixN_nat (k := 2) (by omega)
theorem ixN_3 : ixN (n + 4) 3 = some 3 := ixN_nat (k := 3) (by omega)
end
end DL
namespace DL
open PySem PySem.Spec PyProof.Rows L2 TL
theorem ofs_eq {a b : String} : (Str.ofString a = Str.ofString b) = (a = b) := by
  refine propext ⟨fun h => ?_, fun h => by rw [h]⟩
  rw [Str.ofString_eq_toList, Str.ofString_eq_toList] at h
  have h1 : a.toList.map Char.toNat = b.toList.map Char.toNat := by
    have := congrArg (fun s : Str => s.cps.toList) h
    simpa using this
  have h2 : ∀ l m : List Char, l.map Char.toNat = m.map Char.toNat → l = m := by
    intro l
    induction l with
    | nil => intro m h; cases m with
      | nil => rfl
      | cons c m => cases h
    | cons c l ih => intro m h; cases m with
      | nil => cases h
      | cons d m =>
        simp only [List.map_cons, List.cons.injEq] at h
        rw [Char.toNat_inj.mp h.1, ih m h.2]
  exact String.toList_inj.mp (h2 _ _ h1)
theorem inD_cons {x a : Str} {xs : List DV} : inD (.str x) (.str a :: xs) = (decide (a = x) || inD (.str x) xs) := by
  show (a == x || _) = _
  by_cases e : a = x
  · subst e; simp [inD]
  · rw [decide_eq_false e, beq_eq_false_iff_ne.mpr e]; rfl
theorem inD_nil {x : DV} : inD x [] = false := rfl
/-! ### the figures of a number -/
theorem dig_facts (n : Nat) : (∀ c ∈ Nat.toDigits 10 n, c.toNat ∈ tl (Str.ofString "0123456789")) ∧ Nat.toDigits 10 n ≠ [] ∧ (n ≠ 0 → (Nat.toDigits 10 n).head? ≠ some '0') ∧ ∀ k, n < 10 ^ (k + 1) → (Nat.toDigits 10 n).length ≤ k + 1 := by
  have dc : ∀ d, d < 10 → (Nat.digitChar d).toNat ∈ tl (Str.ofString "0123456789") := by decide +kernel
  have d0 : ∀ d, d < 10 → d ≠ 0 → Nat.digitChar d ≠ '0' := by decide +kernel
  induction n using Nat.strongRecOn with
  | _ n ih =>
    by_cases h : n < 10
    · rw [Nat.toDigits_of_lt_base h]
      refine ⟨fun c hc => by simp at hc; subst hc; exact dc n h, by simp, fun h0 e => d0 n h h0 (by simpa using e), fun k _ => by simp⟩
    · have h' : 10 ≤ n := by omega
      obtain ⟨a1, a2, a3, a4⟩ := ih (n / 10) (by omega)
      rw [Nat.toDigits_of_base_le (by decide) h']
      refine ⟨fun c hc => ?_, by simp, fun _ e => ?_, fun k hk => ?_⟩
      · rcases List.mem_append.mp hc with hc | hc
        · exact a1 c hc
        · simp at hc; subst hc; exact dc _ (Nat.mod_lt _ (by decide))
      · refine a3 (by omega) ?_
        cases ed : Nat.toDigits 10 (n / 10) with
        | nil => exact absurd ed a2
        | cons c l => rw [ed] at e; exact e
      · cases k with
        | zero => simp at hk; omega
        | succ k =>
          have := a4 k (by rw [Nat.pow_succ] at hk; omega)
          rw [List.length_append]; simp; omega
theorem tl_digits (n : Nat) : tl (Str.ofString (toString (n : Int))) = (Nat.toDigits 10 n).map Char.toNat := by
  have e : toString (n : Int) = String.ofList (Nat.toDigits 10 n) := rfl
  rw [e, Str.ofString_eq_toList]
  simp [tl]
theorem log2_of (r : Int) (h0 : 0 ≤ r) (h1 : r < 1000000) : r.natAbs.log2 < 1920 := by
  by_cases h : r.natAbs = 0
  · rw [h]; decide
  · have : r.natAbs < 2 ^ 20 := by have : (2:Nat) ^ 20 = 1048576 := by decide
                                   omega
    have := (Nat.log2_lt h).mpr this
    omega
theorem num_len {n : Nat} (h : n < 1000000) : (tl (Str.ofString (toString (n : Int)))).length ≤ 6 := by
  rw [tl_digits, List.length_map]
  exact (dig_facts n).2.2.2 5 (by show n < 10 ^ 6; omega)
theorem joinL_len2 {sep : List Nat} : ∀ (ps : List (List Nat)), (TL.joinL sep ps).length ≤ (ps.map List.length).sum + ps.length * sep.length
  | [] => by simp [TL.joinL]
  | [p] => by simp [TL.joinL]
  | p :: q :: r => by
    have := joinL_len2 (sep := sep) (q :: r)
    simp only [TL.joinL, List.map_cons, List.sum_cons, List.length_cons, List.length_append] at this ⊢
    simp only [Nat.add_mul, Nat.one_mul] at this ⊢
    omega
theorem sum_len_le {m : Nat} : ∀ {ss : List Str}, (∀ s ∈ ss, (tl s).length ≤ m) → (ss.map fun s => (tl s).length).sum ≤ m * ss.length
  | [], _ => by simp
  | r :: rows, h => by
    have h1 := h r List.mem_cons_self
    have h2 := sum_len_le (ss := rows) fun r hr => h r (List.mem_cons_of_mem _ hr)
    rw [List.map_cons, List.sum_cons, List.length_cons, Nat.mul_add]; omega
theorem join_len {m : Nat} {sep : Str} {ss : List Str} (h : ∀ s ∈ ss, (tl s).length ≤ m) : (tl (Txt.join sep ss)).length ≤ m * ss.length + ss.length * (tl sep).length := by
  rw [TL.join_eq, TL.tl_join]
  have h1 := joinL_len2 (sep := tl sep) (ss.map tl)
  have h2 := sum_len_le h
  rw [List.map_map, List.length_map] at h1
  have e : (List.length ∘ tl : Str → Nat) = fun r => (tl r).length := rfl
  rw [e] at h1
  omega
theorem app_len (x y : Str) : (tl (x ++ y)).length = (tl x).length + (tl y).length := by rw [tl_append, List.length_append]
end DL

set_option Elab.async false
set_option linter.all false
set_option maxRecDepth 100000
/-! DData: more readings of data: tuple(x), list(x), min(i, j), sorted(d), extend, xs * n, d.get. -/
namespace DL
open PySem PySem.Spec PyProof.Rows L2 TL
section
variable {X : Cx}
/-- tuple(x) -/
def dTupOf : List DV → Own → DVK → Prop
  | [.lst xs], O, Q => Q (.tup xs) O
  | [.tup xs], O, Q => Q (.tup xs) O
  | [.ref a], O, Q => onL (O a) fun xs => Q (.tup xs) O
  | _, _, _ => False
theorem cd_tuple : CallD X (.type "tuple") dTupOf := by
  refine ⟨CallR_imp call_tuple_of ?_⟩
  rintro vs H VQ ⟨F, O, ds, Q, rs, rr, h, fin⟩
  unfold dTupOf at h
  split at h
  · obtain ⟨v, rfl, r⟩ := rr.one
    cases r with
    | lst e r =>
      refine ⟨_, _, rfl, .inl ⟨.inl (.inl (rs.lst e)), fun p hp => ?_⟩⟩
      exact fin _ _ h _ _ _ (rs.new hp _) (.tup upd_same (r.mono (rs.new hp _).sub))
  · obtain ⟨v, rfl, r⟩ := rr.one
    cases r with
    | tup e r => exact ⟨_, _, rfl, .inr ⟨.inl (.inl (rs.tup e)), fin _ _ h _ _ F (.refl rs) (.tup e r)⟩⟩
  · rename_i a
    obtain ⟨v, rfl, r⟩ := rr.one
    cases r
    obtain ⟨xs, e, h⟩ := onL_ex h
    obtain ⟨_, vs, h1, r1⟩ := rs.own a _ e
    refine ⟨_, _, rfl, .inl ⟨.inl (.inl h1), fun p hp => ?_⟩⟩
    exact fin _ _ h _ _ _ (rs.new hp _) (.tup upd_same (r1.mono (rs.new hp _).sub))
  · exact h.elim
/-- list(x): owned -/
def dListOf : List DV → Own → DVK → Prop
  | [d], O, Q => seqQ O d fun xs => ∀ p, O p = none → Q (.ref p) (oset O p (.lst xs))
  | _, _, _ => False
theorem cd_list : CallD X (.type "list") dListOf := by
  refine ⟨CallR_imp call_list_of ?_⟩
  rintro vs H VQ ⟨F, O, ds, Q, rs, rr, h, fin⟩
  unfold dListOf at h
  split at h
  · obtain ⟨v, rfl, r⟩ := rr.one
    obtain ⟨xs, e, h⟩ := seqQ_ex h
    obtain ⟨a, ws, rfl, h1, r1⟩ := seqOf_at rs r e
    refine ⟨_, _, rfl, h1, fun p hp => ?_⟩
    exact fin _ _ (h p (rs.free hp).2) _ _ F (rs.newO hp ⟨_, upd_same, r1⟩) (.ref p)
  · exact h.elim
/-- min(i, j) -/
def dMin2 : List DV → Own → DVK → Prop
  | [.int i, .int j], O, Q => Q (.int (if j < i then j else i)) O
  | _, _, _ => False
theorem cd_min (hc : X.calm = true) : CallD X (.builtin "min") dMin2 := by
  refine ⟨CallR_imp (call_min2 hc) ?_⟩
  rintro vs H VQ ⟨F, O, ds, Q, rs, rr, h, fin⟩
  unfold dMin2 at h
  split at h
  · obtain ⟨v, w, rfl, r, r2⟩ := rr.two
    cases r; cases r2
    exact ⟨_, _, rfl, fin _ _ h _ _ F (.refl rs) (.int _)⟩
  · exact h.elim
/-- xs.extend(ys) -/
def dExt : DV → List DV → Own → DVK → Prop
  | .ref a, [d], O, Q => onL (O a) fun xs => lstQ O d fun zs => xs.length + zs.length ≤ sizeLine ∧ Q .non (oset O a (.lst (xs ++ zs)))
  | _, _, _, _ => False
theorem md_extend : MtD X "list.extend" dExt := by
  refine ⟨MtR_imp mt_extend ?_⟩
  rintro x xs H VQ ⟨F, O, d, ds, Q, rs, rx, rr, h, fin⟩
  unfold dExt at h
  split at h
  · rename_i a y
    cases rx
    obtain ⟨v, rfl, ry⟩ := rr.one
    obtain ⟨ys, e, h⟩ := onL_ex h
    obtain ⟨zs, e2, h⟩ := lstQ_ex h
    obtain ⟨_, vs, h1, r1⟩ := rs.own a _ e
    obtain ⟨b, ws, rfl, h2, r2⟩ := lstOf_at rs ry e2
    refine ⟨a, b, vs, ws, rfl, rfl, h1, h2, by rw [r1.len, r2.len]; exact h.1, ?_⟩
    exact fin _ _ h.2 _ _ F (rs.write e ⟨_, upd_same, r1.append r2⟩) .non
  · exact h.elim
/-- xs * n: frozen -/
def dMulL : DV → DV → Own → DVK → Prop
  | d, .int k, O, Q => lstQ O d fun xs => -(2 ^ 63) ≤ k ∧ k < 2 ^ 63 ∧ xs.length * k.toNat ≤ sizeLine ∧ Q (.lst (List.replicate k.toNat xs).flatten) O
  | _, _, _, _ => False
theorem Reps.rep {K : PySem.W.Frag} {F : Hp} {vs : List V} {ds : List DV} (r : Reps K F vs ds) : ∀ n : Nat, Reps K F (List.replicate n vs).flatten (List.replicate n ds).flatten
  | 0 => .nil
  | n + 1 => by rw [List.replicate_succ, List.replicate_succ, List.flatten_cons, List.flatten_cons]; exact r.append (Reps.rep r n)
theorem od_mulL : OpD X (binaryOp .Mult) dMulL := by
  refine ⟨OpR_imp op_rep ?_⟩
  rintro x y H VQ ⟨F, O, dx, dy, Q, rs, rx, ry, h, fin⟩
  unfold dMulL at h
  split at h
  · cases ry
    obtain ⟨xs, e, h⟩ := lstQ_ex h
    obtain ⟨a, vs, rfl, h1, r1⟩ := lstOf_at rs rx e
    refine ⟨a, _, vs, rfl, rfl, h1, h.1, h.2.1, by rw [r1.len]; exact h.2.2.1, fun p hp => ?_⟩
    exact fin _ _ h.2.2.2 _ _ _ (rs.new hp _) (.lst upd_same ((r1.rep _).mono (rs.new hp _).sub))
  · exact h.elim
end
end DL
namespace DL
open PySem PySem.Spec PyProof.Rows L2 TL
section
variable {X : Cx} {o e f : Expr} {apos cpos : Pos} {td ty tx : DTE}
def dIsD (O : Own) : DV → Prop
  | .dK _ => True
  | .dT _ => True
  | .ref a => match O a with
    | some (.dK _) => True
    | some (.dT _) => True
    | _ => False
  | _ => False
theorem isD_of {K : PySem.W.Frag} {F H : Hp} {O : Own} {v : V} {d : DV} (rs : RS K F O H) (r : Rep K F v d) (h : dIsD O d) : ∃ a, v = .ref a ∧ IsD H a := by
  have lk : ∀ {a : Addr} {o : HO}, F a = some o → Lk o → Rd H a o := fun e l => by
    rcases rs.fro _ _ e with q | ⟨_, ob, q⟩
    · exact .inl q
    · exact .inr ⟨ob, q⟩
  cases r with
  | dK e r => exact ⟨_, rfl, .inl ⟨_, lk e trivial⟩⟩
  | dT e r => exact ⟨_, rfl, .inr ⟨_, lk e trivial⟩⟩
  | ref a =>
    refine ⟨_, rfl, ?_⟩
    cases e : O a with
    | none => simp [dIsD, e] at h
    | some c =>
      cases c with
      | dK es => obtain ⟨_, kvs, h1, _⟩ := rs.own a _ e; exact .inl ⟨_, .inl h1⟩
      | dT es => obtain ⟨_, kvs, h1, _⟩ := rs.own a _ e; exact .inr ⟨_, .inl h1⟩
      | lst _ => simp [dIsD, e] at h
      | ins _ _ => simp [dIsD, e] at h
  | _ => exact h.elim
/-- d.get(k) -/
def dGet1 (td ty : DTE) (S : DSt) (O : Own) (Q : DVK) : Prop := td S O fun x O1 => dIsD O1 x ∧ ty S O1 fun y O2 => findQ O2 x y fun r => Q (r.getD .non) O2
/-- d.get(k, z) -/
def dGet2 (td ty tx : DTE) (S : DSt) (O : Own) (Q : DVK) : Prop := td S O fun x O1 => dIsD O1 x ∧ ty S O1 fun y O2 => tx S O2 fun z O3 => findQ O3 x y fun r => Q (r.getD z) O3
theorem de_get1 (hu : X.A.units + 1 < cLine) (ho : DE X o td) (he : DE X e ty) (m : M1 X o "get" apos e cpos) : DE X (.Call (.Attribute o "get" apos) [e] [] cpos) (dGet1 td ty) := by
  refine ⟨PE_imp (pe_dget1 hu ho.pe he.pe m) ?_⟩
  rintro σ H VQ ⟨F, O, S, Q, rs, sr, h, fin⟩
  refine ⟨F, O, S, _, rs, sr, h, fun dx O1 h1 x H1 F1 s1 rx => ?_⟩
  obtain ⟨a, rfl, ha⟩ := isD_of s1.rs rx h1.1
  refine ⟨a, rfl, ha, F1, O1, S, _, s1.rs, sr.mono s1.sub, h1.2, fun dy O2 h2 y H2 F2 s2 ry => ?_⟩
  obtain ⟨r, e, h2⟩ := findQ_ex h2
  obtain ⟨p, o, e1, h3, h4, h5⟩ := dfind_at s2.rs (rx.mono s2.sub) ry e
  cases e1
  refine ⟨o, h3, ?_⟩
  cases r with
  | none => rw [h5 rfl]; exact fin _ _ h2 _ H2 F2 (s1.trans s2) .non
  | some d => obtain ⟨w', rfl, r⟩ := h4 d rfl; exact fin _ _ h2 _ H2 F2 (s1.trans s2) r
theorem de_get2 (hu : X.A.units + 1 < cLine) (ho : DE X o td) (he : DE X e ty) (hf : DE X f tx) (m : M2 X o "get" apos e f cpos) : DE X (.Call (.Attribute o "get" apos) [e, f] [] cpos) (dGet2 td ty tx) := by
  refine ⟨PE_imp (pe_dget2 hu ho.pe he.pe hf.pe m) ?_⟩
  rintro σ H VQ ⟨F, O, S, Q, rs, sr, h, fin⟩
  refine ⟨F, O, S, _, rs, sr, h, fun dx O1 h1 x H1 F1 s1 rx => ?_⟩
  obtain ⟨a, rfl, ha⟩ := isD_of s1.rs rx h1.1
  refine ⟨a, rfl, ha, F1, O1, S, _, s1.rs, sr.mono s1.sub, h1.2, fun dy O2 h2 y H2 F2 s2 ry => ⟨F2, O2, S, _, s2.rs, sr.mono (s1.sub.trans s2.sub), h2, fun dz O3 h3 z H3 F3 s3 rz => ?_⟩⟩
  obtain ⟨r, e, h3⟩ := findQ_ex h3
  obtain ⟨p, o, e1, h4, h5, h6⟩ := dfind_at s3.rs (rx.mono (s2.sub.trans s3.sub)) (ry.mono s3.sub) e
  cases e1
  refine ⟨o, h4, ?_⟩
  cases r with
  | none => rw [h6 rfl]; exact fin _ _ h3 _ H3 F3 ((s1.trans s2).trans s3) rz
  | some d => obtain ⟨w', rfl, r⟩ := h5 d rfl; exact fin _ _ h3 _ H3 F3 ((s1.trans s2).trans s3) r
/-- sorted(d) of texts: frozen -/
def dSortD : List DV → Own → DVK → Prop
  | [d], O, Q => dkQ O d fun es => ∃ ks : List Str, es.map (·.1) = ks.map Sum.inr ∧ ks.length < 64 ∧ ∀ ys : List Str, ys.Perm ks → Q (.lst (ys.map DV.str)) O
  | _, _, _ => False
theorem RepK.keys {K : PySem.W.Frag} {F : Hp} : ∀ {kvs : List (Key × V)} {es : List (Key × DV)}, RepK K F kvs es → kvs.map (·.1) = es.map (·.1)
  | _, _, .nil => rfl
  | _, _, .cons _ r => by rw [List.map_cons, List.map_cons, RepK.keys r]
theorem cd_sortD (hc : X.calm = true) : CallD X (.builtin "sorted") dSortD := by
  refine ⟨CallR_imp (call_sortedD hc) ?_⟩
  rintro vs H VQ ⟨F, O, ds, Q, rs, rr, h, fin⟩
  unfold dSortD at h
  split at h
  · obtain ⟨v, rfl, r⟩ := rr.one
    obtain ⟨es, e, ks, h1, h2, h⟩ := dkQ_ex h
    obtain ⟨a, kvs, rfl, h3, r1⟩ := dkOf_at rs r e
    refine ⟨a, kvs, ks, rfl, h3, by rw [r1.keys, h1], h2, fun ys p hp _ hH => ?_⟩
    exact fin _ _ (h ys hp) _ _ _ (rs.new hH _) (.lst upd_same (Reps.of_strs _))
  · exact h.elim
end
end DL

set_option Elab.async false
set_option linter.all false
set_option maxRecDepth 100000
/-! DKey: written dicts with flat values: d.get(k, z), d[k]. -/
namespace DL
open PySem PySem.Spec PyProof.Rows L2 TL
/-- a value that stands as it is told -/
def LitD (d : DV) (u : Value) : Prop := ∃ v, RelV v u ∧ ∀ (K : PySem.W.Frag) (F : Hp), Rep K F v d
def KeyVals : List DictEntry → List (Str × DV) → Prop
  | [], [] => True
  | e :: es, x :: xs => ((∃ t, e.key = .str x.1 t) ∧ LitD x.2 e.val) ∧ KeyVals es xs
  | _, _ => False
def klook : List (Str × DV) → Str → Option DV
  | [], _ => none
  | x :: xs, z => if x.1 = z then some x.2 else klook xs z
theorem keyVals_find : ∀ {es : List DictEntry} {xs : List (Str × DV)} (z : Str), KeyVals es xs → es.any (·.refKey) = false ∧
    ((klook xs z = none ∧ es.find? (·.key.isStr z) = none) ∨ ∃ d e, klook xs z = some d ∧ es.find? (·.key.isStr z) = some e ∧ LitD d e.val)
  | [], [], z, _ => ⟨rfl, .inl ⟨rfl, rfl⟩⟩
  | e :: es, x :: xs, z, ⟨⟨⟨t, h⟩, hv⟩, q⟩ => by
    obtain ⟨h1, h2⟩ := keyVals_find z q
    have hk : e.key.isStr z = decide (x.1 = z) := by
      rw [h]
      show (x.1 == z) = _
      by_cases e : x.1 = z
      · rw [e]; simp
      · rw [decide_eq_false e]; exact beq_eq_false_iff_ne.mpr e
    have hr : e.refKey = false := by unfold DictEntry.refKey; rw [h]
    refine ⟨by simp [hr, h1], ?_⟩
    rw [List.find?_cons, hk]
    unfold klook
    by_cases e0 : x.1 = z
    · rw [if_pos e0, decide_eq_true e0]; exact .inr ⟨_, _, rfl, rfl, hv⟩
    · rw [if_neg e0, decide_eq_false e0]; exact h2
  | [], _ :: _, _, h => h.elim
  | _ :: _, [], _, h => h.elim
theorem nsIn_vals {K : PySem.W.Frag} {w : World} {a : Addr} {es : Array DictEntry} {n : Nat} {xs : List (Str × DV)} (D : KDict K w a es n) (hx : KeyVals es.toList xs) (z : Str) :
    (klook xs z = none ∧ PySem.W.nsIn K a z = some none) ∨ ∃ d u, klook xs z = some d ∧ PySem.W.nsIn K a z = some (some u) ∧ LitD d u := by
  obtain ⟨h1, h2⟩ := keyVals_find z hx
  unfold PySem.W.nsIn
  rw [D.at_]
  dsimp only
  rcases h2 with ⟨h3, h4⟩ | ⟨d, e, h3, h4, h5⟩
  · refine .inl ⟨h3, ?_⟩
    rw [h4]; simp [h1]
  · refine .inr ⟨d, e.val, h3, ?_, h5⟩
    rw [h4]
section
variable {X : Cx} {d : Addr} {es : Array DictEntry} {n : Nat} {xs : List (Str × DV)} {o e f : Expr} {apos cpos : Pos}
def tKGet2 (K : PySem.W.Frag) (d : Addr) (td ty tx : TE) : TE := fun σ H Q => td σ H fun x H1 => x = .ref d ∧ ty σ H1 fun y H2 => tx σ H2 fun z H3 => ∃ (k : Str) (r : Option Value), y = .str k ∧ PySem.W.nsIn K d k = some r ∧
  ((r = none ∧ Q z H3) ∨ ∃ u v, r = some u ∧ RelV v u ∧ Q v H3)
theorem pe_kget2 {td ty tx : TE} (D : KDict X.K X.w d es n) (ho : PE X o td) (he : PE X e ty) (hf : PE X f tx) (m : M2 X o "get" apos e f cpos) : PE X (.Call (.Attribute o "get" apos) [e, f] [] cpos) (tKGet2 X.K d td ty tx) := by
  refine ⟨fun pins s σ H Q I h => ?_⟩
  refine wpAny_Call_method m.base m.few m.line PySem.F.plainAttrs_dict PySem.F.slot_dict_get PySem.F.type_dict_get (thn (ho.run pins s σ H _ I h) fun u s1 ⟨x, H1, I1, rx, ex, q1⟩ => ?_)
  subst ex
  obtain rfl : u = Value.ref d := rx
  refine ⟨kd_type D I1, fun b eb => ?_, ?_⟩
  · cases eb
    exact ⟨_, I1.kIn _ _ D.at_, rfl⟩
  rw [m.trees]
  refine Calls.callWith_builtin rfl (Calls.evalArgs_plain (Calls.spliced_cons (thn (he.run pins s1 σ H1 _ I1 q1) fun iv s2 ⟨y, H2, I2, ry, q2⟩ =>
    Calls.spliced_cons (thn (hf.run pins s2 σ H2 _ I2 q2) fun fv s3 ⟨z, H3, I3, rz, k, r, ey, g, q3⟩ => Calls.spliced_nil ?_))))
  subst ey
  obtain ⟨t, rfl⟩ := ry
  refine call_meetsIn PySem.F.slot_dict_get (kd_type D I3) PySem.F.entry_dict_get (PySem.F.args_dict_get_3 _ _ _) (meets_dict_get_default (PySem.strKind X.prog X.w) d (PySem.strKind_is X.prog X.w k t) D.low fv) ⟨_, PySem.W.mapOf_K (prog := X.prog) I3.kIn D.at_ D.lit, ?_⟩
  rw [PySem.W.find_K D.at_ g]
  rcases q3 with ⟨rfl, q3⟩ | ⟨u, v, rfl, rv, q3⟩
  · exact ⟨z, H3, I3.tok _, rz, q3⟩
  · exact ⟨v, H3, I3.tok _, rv, q3⟩
def kStr1 (Q : Str → Own → Prop) : DV → Own → Prop
  | .str k, O => Q k O
  | _, _ => False
/-- d.get(k, z) of a written dict -/
def dKGet2 (d : Addr) (xs : List (Str × DV)) (td ty tx : DTE) (S : DSt) (O : Own) (Q : DVK) : Prop := td S O fun x O1 => x = .ref d ∧ ty S O1 (kStr1 fun k O2 => tx S O2 fun z O3 => Q ((klook xs k).getD z) O3)
theorem de_kget2 {td ty tx : DTE} (D : KDict X.K X.w d es n) (hx : KeyVals es.toList xs) (ho : DE X o td) (he : DE X e ty) (hf : DE X f tx) (m : M2 X o "get" apos e f cpos) : DE X (.Call (.Attribute o "get" apos) [e, f] [] cpos) (dKGet2 d xs td ty tx) := by
  refine ⟨PE_imp (pe_kget2 D ho.pe he.pe hf.pe m) ?_⟩
  rintro σ H VQ ⟨F, O, S, Q, rs, sr, h, fin⟩
  refine ⟨F, O, S, _, rs, sr, h, fun dx O1 h1 x H1 F1 s1 rx => ?_⟩
  obtain ⟨rfl, h1⟩ := h1
  cases rx
  refine ⟨rfl, F1, O1, S, _, s1.rs, sr.mono s1.sub, h1, fun dy O2 h2 y H2 F2 s2 ry => ?_⟩
  cases dy with
  | str k =>
    refine ⟨F2, O2, S, _, s2.rs, sr.mono (s1.sub.trans s2.sub), h2, fun dz O3 h3 z H3 F3 s3 rz => ?_⟩
    cases ry
    rcases nsIn_vals D hx k with ⟨e1, e2⟩ | ⟨dd, u, e1, e2, v, rv, rd⟩
    · refine ⟨k, none, rfl, e2, .inl ⟨rfl, ?_⟩⟩
      rw [e1] at h3
      exact fin _ _ h3 _ H3 F3 ((s1.trans s2).trans s3) rz
    · refine ⟨k, some u, rfl, e2, .inr ⟨u, v, rfl, rv, ?_⟩⟩
      rw [e1] at h3
      exact fin _ _ h3 _ H3 F3 ((s1.trans s2).trans s3) (rd _ _)
  | _ => exact h2.elim
end
end DL
namespace DL
open PySem PySem.Spec PyProof.Rows L2 TL
def kPar3 (i j l : Nat) (nx : DSt → Own → Prop) (S : DSt) : List DV → Own → Prop
  | [u, v, w], O1 => nx (((S.set i (some u)).set j (some v)).set l (some w)) O1
  | _, _ => False
theorem kPar3_e1 {i j l : Nat} {nx : DSt → Own → Prop} {S : DSt} {u v w : DV} {O : Own} : kPar3 i j l nx S [u, v, w] O = nx (((S.set i (some u)).set j (some v)).set l (some w)) O := rfl
def dPar3 (i j l : Nat) (ta : DTA) (D : DEnds) (S : DSt) (O : Own) : Prop := ta S O (kPar3 i j l D.nx S)
/-- a, b, c = x, y, z with plain local names -/
theorem ds_par3 {X : Cx} (i j l : Nat) {x y z : Str} {a b c : Expr} {ta : DTA} {px py pz pt pos : Pos} {kt k2 pt2} (hN : X.N.Nodup) (ha : DA X [a, b, c] ta) (hc : X.calm = true := by rfl) (hi : X.N[i]? = some x := by rfl) (hj : X.N[j]? = some y := by rfl) (hl : X.N[l]? = some z := by rfl)
    (hij : i ≠ j := by decide) (hil : i ≠ l := by decide) (hjl : j ≠ l := by decide)
    (hx : X.env.scope.names.lookup x = some .local := by rfl) (hy : X.env.scope.names.lookup y = some .local := by rfl) (hz : X.env.scope.names.lookup z = some .local := by rfl)
    (hw : swappedStores [.Tuple [.Name x px, .Name y py, .Name z pz] kt pt] (.Tuple [a, b, c] k2 pt2) X.env = pure (some [x, y, z]) := by rfl)
    (hs : swapsWithSole [.Tuple [.Name x px, .Name y py, .Name z pz] kt pt] (.Tuple [a, b, c] k2 pt2) pos.line X.env = pure false := by rfl) :
    DS X (.Assign [.Tuple [.Name x px, .Name y py, .Name z pz] kt pt] (.Tuple [a, b, c] k2 pt2) pos) (dPar3 i j l ta) := by
  refine ⟨PS_imp (ps_par3 hc hN hi hj hl hij hil hjl hx hy hz ha.pa hw hs) ?_⟩
  rintro VD σ H ⟨F, O, S, D, rs, sr, h, fin⟩
  refine ⟨F, O, S, _, rs, sr, h, fun ds O1 h1 vs H1 F1 s1 r1 => ?_⟩
  unfold kPar3 at h1
  split at h1
  · cases r1 with
    | cons ra r1 =>
      cases r1 with
      | cons rb r1 =>
        cases r1 with
        | cons rc r1 =>
          cases r1
          exact ⟨_, _, _, rfl, fin.nx _ _ h1 _ H1 F1 s1 ((((sr.mono s1.sub).set i ra).set j rb).set l rc)⟩
  · exact h1.elim
end DL
namespace DL
open PySem PySem.Spec PyProof.Rows L2 TL
/-- {k: v, ..}, frozen at once -/
def dDispF (trs : List (DTE × DTE)) (S : DSt) (O : Own) (Q : DVK) : Prop := dPairs trs S O fun ps O1 => onSome (kvsOf ps) fun es => es.length ≤ 15 ∧ Q (.dK (dmerge [] es)) O1
theorem de_dispF {X : Cx} {pos : Pos} {keys : List (Option Expr)} {values : List Expr} {trs : List (DTE × DTE)} (h : DPPs X pos keys values trs) (hall : keys.all (·.isSome) = true := by rfl) (hl : keys.length = values.length := by rfl) (h0 : keys ≠ [] := by exact fun z => nomatch z)
    (h15 : keys.length ≤ 15 := by decide) : DE X (.Dict keys values pos) (dDispF trs) := by
  refine ⟨PE_imp (pe_disp h.pps hall hl h0 h15) ?_⟩
  rintro σ H VQ ⟨F, O, S, Q, rs, sr, h, fin⟩ p hp
  obtain ⟨hf, ho⟩ := rs.free hp
  have s0 := (Stp.refl rs).side hp hf ho (.dK [])
  refine liftPairs s0.rs sr h fun ps O1 h1 vs H1 F1 s1 r1 => ?_
  obtain ⟨es, e, h1⟩ := onSome_ex h1
  obtain ⟨kvs, h2, r2⟩ := kvsOf_at r1 e
  obtain ⟨k1, k2⟩ := s1.keep p _ upd_same ho
  have k3 := s1.nof p _ upd_same ho hf
  refine ⟨k1, kvs, h2, by rw [r2.len]; exact h1.1, fin _ _ h1.2 _ _ (upd F1 p (.dK _)) ⟨s1.sub.trans (Sub.upd k3), ⟨fun b u e => ?_, fun b c e => ?_⟩, fun b u q1 q2 => ?_, fun b u q1 q2 q3 => ?_⟩ (.dK upd_same ((RepK.merge r2 .nil).mono (Sub.upd k3)))⟩
  · by_cases hb : b = p
    · subst hb; rw [upd_same] at e ⊢; exact .inl e
    · rw [upd_ne hb] at e; rw [upd_ne hb]; exact s1.rs.fro b u e
  · have hb : b ≠ p := fun z => by subst z; rw [k2] at e; cases e
    obtain ⟨h3, h4⟩ := s1.rs.own b c e
    exact ⟨by rw [upd_ne hb]; exact h3, h4.mono (Sub.upd k3) (upd_ne hb)⟩
  · have hb : b ≠ p := fun z => by subst z; rw [hp] at q1; cases q1
    obtain ⟨z1, z2⟩ := s1.keep b u (by rw [upd_ne hb]; exact q1) q2
    exact ⟨by rw [upd_ne hb]; exact z1, z2⟩
  · have hb : b ≠ p := fun z => by subst z; rw [hp] at q1; cases q1
    rw [upd_ne hb]
    exact s1.nof b u (by rw [upd_ne hb]; exact q1) q2 q3
end DL

set_option Elab.async false
set_option linter.all false
set_option maxRecDepth 100000
set_option autoImplicit true
namespace DL
open PySem PySem.Spec PyProof.Rows L2 TL
theorem onSome_e1 {α : Type} {x : α} {K : α → Prop} : onSome (some x) K = K x := rfl
theorem onL_e1 {xs : _} {K : _} : onL  (some (.lst xs)) K = (K xs) := by first | rfl | (cases x <;> rfl)
theorem lstQ_e1 (O : Own) {xs : _} {K : _} : lstQ O (.lst xs) K = (K xs) := by first | rfl | (cases x <;> rfl)
theorem lstQ_e2 (O : Own) {a : _} {K : _} : lstQ O (.ref a) K = (onL (O a) K) := by first | rfl | (cases x <;> rfl)
theorem seqQ_e1 (O : Own) {xs : _} {K : _} : seqQ O (.lst xs) K = (K xs) := by first | rfl | (cases x <;> rfl)
theorem seqQ_e2 (O : Own) {xs : _} {K : _} : seqQ O (.slst xs) K = (K xs) := by first | rfl | (cases x <;> rfl)
theorem seqQ_e3 (O : Own) {xs : _} {K : _} : seqQ O (.tup xs) K = (K xs) := by first | rfl | (cases x <;> rfl)
theorem seqQ_e4 (O : Own) {xs : _} {K : _} : seqQ O (.stup xs) K = (K xs) := by first | rfl | (cases x <;> rfl)
theorem seqQ_e5 (O : Own) {a : _} {K : _} : seqQ O (.ref a) K = (onL (O a) K) := by first | rfl | (cases x <;> rfl)
theorem sqlQ_e1 (O : Own) {xs : _} {K : _} : sqlQ O (.lst xs) K = (K xs) := by first | rfl | (cases x <;> rfl)
theorem sqlQ_e2 (O : Own) {xs : _} {K : _} : sqlQ O (.slst xs) K = (K xs) := by first | rfl | (cases x <;> rfl)
theorem sqlQ_e3 (O : Own) {a : _} {K : _} : sqlQ O (.ref a) K = (onL (O a) K) := by first | rfl | (cases x <;> rfl)
theorem onK_e1 {es : _} {K : _} : onK  (some (.dK es)) K = (K es) := by first | rfl | (cases x <;> rfl)
theorem onT_e1 {es : _} {K : _} : onT  (some (.dT es)) K = (K es) := by first | rfl | (cases x <;> rfl)
theorem dkQ_e1 (O : Own) {es : _} {K : _} : dkQ O (.dK es) K = (K es) := by first | rfl | (cases x <;> rfl)
theorem dkQ_e2 (O : Own) {a : _} {K : _} : dkQ O (.ref a) K = (onK (O a) K) := by first | rfl | (cases x <;> rfl)
theorem dtQ_e1 (O : Own) {es : _} {K : _} : dtQ O (.dT es) K = (K es) := by first | rfl | (cases x <;> rfl)
theorem dtQ_e2 (O : Own) {a : _} {K : _} : dtQ O (.ref a) K = (onT (O a) K) := by first | rfl | (cases x <;> rfl)
theorem findQ_e1 (O : Own) (x : DV) {z : _} {K : _} : findQ O x (.str z) K = (dkQ O x fun es => K (dget es (.inr z))) := by first | rfl | (cases x <;> rfl)
theorem findQ_e2 (O : Own) (x : DV) {i : _} {K : _} : findQ O x (.int i) K = (dkQ O x fun es => K (dget es (.inl i))) := by first | rfl | (cases x <;> rfl)
theorem findQ_e3 (O : Own) (x : DV) {ds : _} {K : _} : findQ O x (.tup ds) K = (onSome (keysD ds) fun k => dtQ O x fun es => K (dget es k)) := by first | rfl | (cases x <;> rfl)
theorem dAdd_e1 {i : _} {j : _} {O : _} {Q : _} : dAdd  (.int i) (.int j) O Q = (Q (.int (i + j)) O) := by first | rfl | (cases x <;> rfl)
theorem dAdd_e2 {i : _} {k : _} {O : _} {Q : _} : dAdd  (.int i) (.bl k) O Q = (Q (.int (i + b2i k)) O) := by first | rfl | (cases x <;> rfl)
theorem dAdd_e3 {a : _} {b : _} {O : _} {Q : _} : dAdd  (.str a) (.str b) O Q = (a.length + b.length ≤ sizeLine ∧ Q (.str (a ++ b)) O) := by first | rfl | (cases x <;> rfl)
theorem dAdd_e4 {xs : _} {ys : _} {O : _} {Q : _} : dAdd  (.tup xs) (.tup ys) O Q = (xs.length + ys.length ≤ sizeLine ∧ Q (.tup (xs ++ ys)) O) := by first | rfl | (cases x <;> rfl)
theorem dAdd_e5 {xs : _} {ys : _} {O : _} {Q : _} : dAdd  (.lst xs) (.lst ys) O Q = (xs.length + ys.length ≤ sizeLine ∧ Q (.lst (xs ++ ys)) O) := by first | rfl | (cases x <;> rfl)
theorem dAdd_e6 {a : _} {y : _} {O : _} {Q : _} : dAdd  (.ref a) y O Q = (onL (O a) fun xs => lstQ O y fun ys => xs.length + ys.length ≤ sizeLine ∧ Q (.lst (xs ++ ys)) O) := by first | rfl | (cases x <;> rfl)
theorem dAdd_e7 {xs : _} {b : _} {O : _} {Q : _} : dAdd  (.lst xs) (.ref b) O Q = (onL (O b) fun ys => xs.length + ys.length ≤ sizeLine ∧ Q (.lst (xs ++ ys)) O) := by first | rfl | (cases x <;> rfl)
theorem dI2_e1 (C : Int → Int → Prop) (g : Int → Int → DV) {i : _} {j : _} {O : _} {Q : _} : dI2 C g (.int i) (.int j) O Q = (C i j ∧ Q (g i j) O) := by first | rfl | (cases x <;> rfl)
theorem dSub_e1 {i : _} {j : _} {O : _} {Q : _} : dSub  (.int i) (.int j) O Q = (Q (.int (i - j)) O) := by first | rfl | (cases x <;> rfl)
theorem dCmpI_e1 (p : Int → Int → Bool) {i : _} {j : _} {O : _} {Q : _} : dCmpI p (.int i) (.int j) O Q = (Q (.bl (p i j)) O) := by first | rfl | (cases x <;> rfl)
theorem dEq_e1 (neg : Bool) {i : _} {j : _} {O : _} {Q : _} : dEq neg (.int i) (.int j) O Q = (Q (.bl (if neg then !decide (i = j) else decide (i = j))) O) := by first | rfl | (cases x <;> rfl)
theorem dEq_e2 (neg : Bool) {i : _} {j : _} {O : _} {Q : _} : dEq neg (.str i) (.str j) O Q = (Q (.bl (if neg then !decide (i = j) else decide (i = j))) O) := by first | rfl | (cases x <;> rfl)
theorem dEq_e3 (neg : Bool) {i : _} {j : _} {O : _} {Q : _} : dEq neg (.bl i) (.bl j) O Q = (Q (.bl (if neg then !decide (i = j) else decide (i = j))) O) := by first | rfl | (cases x <;> rfl)
theorem dEq_e4 (neg : Bool) {xs : _} {y : _} {O : _} {Q : _} : dEq neg (.lst xs) y O Q = (dEqP neg (.lst xs) y O Q) := by first | rfl | (cases x <;> rfl)
theorem dEq_e5 (neg : Bool) {xs : _} {y : _} {O : _} {Q : _} : dEq neg (.tup xs) y O Q = (dEqP neg (.tup xs) y O Q) := by first | rfl | (cases x <;> rfl)
theorem dEq_e6 (neg : Bool) {xs : _} {y : _} {O : _} {Q : _} : dEq neg (.stup xs) y O Q = (dEqP neg (.stup xs) y O Q) := by first | rfl | (cases x <;> rfl)
theorem dEq_e7 (neg : Bool) {y : _} {O : _} {Q : _} : dEq neg (.non) y O Q = (dEqP neg .non y O Q) := by first | rfl | (cases x <;> rfl)
theorem dEq_e8 (neg : Bool) {i : _} {O : _} {Q : _} : dEq neg (.int i) (.non) O Q = (dEqP neg (.int i) .non O Q) := by first | rfl | (cases x <;> rfl)
theorem dEq_e9 (neg : Bool) {i : _} {y : _} {O : _} {Q : _} : dEq neg (.int i) (.str y) O Q = (dEqP neg (.int i) (.str y) O Q) := by first | rfl | (cases x <;> rfl)
theorem dEq_e10 (neg : Bool) {i : _} {y : _} {O : _} {Q : _} : dEq neg (.int i) (.tup y) O Q = (dEqP neg (.int i) (.tup y) O Q) := by first | rfl | (cases x <;> rfl)
theorem dEq_e11 (neg : Bool) {i : _} {y : _} {O : _} {Q : _} : dEq neg (.int i) (.lst y) O Q = (dEqP neg (.int i) (.lst y) O Q) := by first | rfl | (cases x <;> rfl)
theorem dEq_e12 (neg : Bool) {i : _} {O : _} {Q : _} : dEq neg (.str i) (.non) O Q = (dEqP neg (.str i) .non O Q) := by first | rfl | (cases x <;> rfl)
theorem dEq_e13 (neg : Bool) {i : _} {y : _} {O : _} {Q : _} : dEq neg (.str i) (.int y) O Q = (dEqP neg (.str i) (.int y) O Q) := by first | rfl | (cases x <;> rfl)
theorem dEq_e14 (neg : Bool) {i : _} {y : _} {O : _} {Q : _} : dEq neg (.str i) (.tup y) O Q = (dEqP neg (.str i) (.tup y) O Q) := by first | rfl | (cases x <;> rfl)
theorem dEq_e15 (neg : Bool) {i : _} {y : _} {O : _} {Q : _} : dEq neg (.str i) (.lst y) O Q = (dEqP neg (.str i) (.lst y) O Q) := by first | rfl | (cases x <;> rfl)
theorem dIsN_e1 (neg : Bool) {x : _} {O : _} {Q : _} : dIsN neg x (.non) O Q = (Q (.bl (if neg then !isNon x else isNon x)) O) := by first | rfl | (cases x <;> rfl)
theorem isNon_e1 : isNon  (.non) = (true) := by first | rfl | (cases x <;> rfl)
theorem dInS_e1 (neg : Bool) (z : Str) (O : Own) (Q : DVK) (c : Str) {k : _} : dInS neg z O Q c [k] = (Q (.bl (if neg then !decide (k ∈ tl z) else decide (k ∈ tl z))) O) := by first | rfl | (cases x <;> rfl)
theorem dIn_e1 (neg : Bool) {c : _} {z : _} {O : _} {Q : _} : dIn neg (.str c) (.str z) O Q = (dInS neg z O Q c (tl c)) := by first | rfl | (cases x <;> rfl)
theorem dIn_e2 (neg : Bool) {x : _} {xs : _} {O : _} {Q : _} : dIn neg x (.lst xs) O Q = (dInQ neg x (.lst xs) O Q) := by first | rfl | (cases x <;> rfl)
theorem dIn_e3 (neg : Bool) {x : _} {xs : _} {O : _} {Q : _} : dIn neg x (.slst xs) O Q = (dInQ neg x (.slst xs) O Q) := by first | rfl | (cases x <;> rfl)
theorem dIn_e4 (neg : Bool) {x : _} {xs : _} {O : _} {Q : _} : dIn neg x (.tup xs) O Q = (dInQ neg x (.tup xs) O Q) := by first | rfl | (cases x <;> rfl)
theorem dIn_e5 (neg : Bool) {x : _} {xs : _} {O : _} {Q : _} : dIn neg x (.stup xs) O Q = (dInQ neg x (.stup xs) O Q) := by first | rfl | (cases x <;> rfl)
theorem dIn_e6 (neg : Bool) {x : _} {xs : _} {O : _} {Q : _} : dIn neg x (.ref xs) O Q = (dInQ neg x (.ref xs) O Q) := by first | rfl | (cases x <;> rfl)
theorem dInK_e1 (K : PySem.W.Frag) (d : Addr) (neg : Bool) {z : _} {a : _} {O : _} {Q : _} : dInK K d neg (.str z) (.ref a) O Q = (a = d ∧ ∃ r, PySem.W.nsIn K d z = some r ∧ Q (.bl (if neg then !r.isSome else r.isSome)) O) := by first | rfl | (cases x <;> rfl)
theorem dIx_e1 {z : _} {i : _} {O : _} {Q : _} : dIx  (.str z) (.int i) O Q = (z.length ≤ sizeLine ∧ onSome (atI (tl z) i) fun c => Q (.str ⟨#[c]⟩) O) := by first | rfl | (cases x <;> rfl)
theorem dIx_e2 {x : _} {i : _} {O : _} {Q : _} : dIx  (.lst x) (.int i) O Q = (dIxQ (.lst x) i O Q) := by first | rfl | (cases x <;> rfl)
theorem dIx_e3 {x : _} {i : _} {O : _} {Q : _} : dIx  (.slst x) (.int i) O Q = (dIxQ (.slst x) i O Q) := by first | rfl | (cases x <;> rfl)
theorem dIx_e4 {x : _} {i : _} {O : _} {Q : _} : dIx  (.tup x) (.int i) O Q = (dIxQ (.tup x) i O Q) := by first | rfl | (cases x <;> rfl)
theorem dIx_e5 {x : _} {i : _} {O : _} {Q : _} : dIx  (.stup x) (.int i) O Q = (dIxQ (.stup x) i O Q) := by first | rfl | (cases x <;> rfl)
theorem dIx_e6 {x : _} {i : _} {O : _} {Q : _} : dIx  (.ref x) (.int i) O Q = (dIxQ (.ref x) i O Q) := by first | rfl | (cases x <;> rfl)
theorem kBl_e1 (Q : Bool → Own → Prop) {b : _} {O : _} : kBl Q (.bl b) O = (Q b O) := by first | rfl | (cases x <;> rfl)
theorem kInt_e1 (Q : Int → Own → Prop) {i : _} {O : _} : kInt Q (.int i) O = (Q i O) := by first | rfl | (cases x <;> rfl)
theorem kTru_e1 (Q : Bool → Own → Prop) {O1 : _} : kTru Q (.non) O1 = (Q false O1) := by first | rfl | (cases x <;> rfl)
theorem kTru_e2 (Q : Bool → Own → Prop) {b : _} {O1 : _} : kTru Q (.bl b) O1 = (Q b O1) := by first | rfl | (cases x <;> rfl)
theorem kTru_e3 (Q : Bool → Own → Prop) {i : _} {O1 : _} : kTru Q (.int i) O1 = (Q (i != 0) O1) := by first | rfl | (cases x <;> rfl)
theorem kTru_e4 (Q : Bool → Own → Prop) {y : _} {O1 : _} : kTru Q (.str y) O1 = (y.length ≤ sizeLine ∧ Q ((y.length : Int) != 0) O1) := by first | rfl | (cases x <;> rfl)
theorem kTru_e5 (Q : Bool → Own → Prop) {xs : _} {O1 : _} : kTru Q (.lst xs) O1 = (Q (!xs.isEmpty) O1) := by first | rfl | (cases x <;> rfl)
theorem kTru_e6 (Q : Bool → Own → Prop) {xs : _} {O1 : _} : kTru Q (.slst xs) O1 = (Q (!xs.isEmpty) O1) := by first | rfl | (cases x <;> rfl)
theorem kTru_e7 (Q : Bool → Own → Prop) {xs : _} {O1 : _} : kTru Q (.tup xs) O1 = (Q (!xs.isEmpty) O1) := by first | rfl | (cases x <;> rfl)
theorem kTru_e8 (Q : Bool → Own → Prop) {xs : _} {O1 : _} : kTru Q (.stup xs) O1 = (Q (!xs.isEmpty) O1) := by first | rfl | (cases x <;> rfl)
theorem kTru_e9 (Q : Bool → Own → Prop) {a : _} {O1 : _} : kTru Q (.ref a) O1 = (onL (O1 a) fun xs => Q (!xs.isEmpty) O1) := by first | rfl | (cases x <;> rfl)
theorem kRef_e1 (Q : Addr → Own → Prop) {a : _} {O : _} : kRef Q (.ref a) O = (Q a O) := by first | rfl | (cases x <;> rfl)
theorem kLst_e1 (Q : List DV → Own → Prop) {xs : _} {O' : _} : kLst Q (.lst xs) O' = (Q xs O') := by first | rfl | (cases x <;> rfl)
theorem kLst_e2 (Q : List DV → Own → Prop) {xs : _} {O' : _} : kLst Q (.slst xs) O' = (Q xs O') := by first | rfl | (cases x <;> rfl)
theorem kTup_e1 (Q : List DV → Own → Prop) {xs : _} {O' : _} : kTup Q (.tup xs) O' = (Q xs O') := by first | rfl | (cases x <;> rfl)
theorem kTup_e2 (Q : List DV → Own → Prop) {xs : _} {O' : _} : kTup Q (.stup xs) O' = (Q xs O') := by first | rfl | (cases x <;> rfl)
theorem kStr_e1 (Q : Str → Own → Prop) {x : _} {O' : _} : kStr Q (.str x) O' = (Q x O') := by first | rfl | (cases x <;> rfl)
theorem kRng1_e1 (Q : List DV → Own → Prop) {j : _} {O' : _} : kRng1 Q [.int j] O' = ((-(2 ^ 62) ≤ j ∧ j < 2 ^ 62) ∧ Q ((List.range j.toNat).map fun (k : Nat) => .int (k : Int)) O') := by first | rfl | (cases x <;> rfl)
theorem kRng2_e1 (Q : List DV → Own → Prop) {i : _} {j : _} {O' : _} : kRng2 Q [.int i, .int j] O' = ((-(2 ^ 62) ≤ i ∧ i < 2 ^ 62 ∧ -(2 ^ 62) ≤ j ∧ j < 2 ^ 62) ∧ Q ((List.range (j - i).toNat).map fun (k : Nat) => .int (i + (k : Int))) O') := by first | rfl | (cases x <;> rfl)
theorem kEnum_e1 (Q : List DV → Own → Prop) {xs : _} {O' : _} : kEnum Q [.lst xs] O' = (Q (enumD 0 xs) O') := by first | rfl | (cases x <;> rfl)
theorem kEnum_e2 (Q : List DV → Own → Prop) {xs : _} {O' : _} : kEnum Q [.slst xs] O' = (Q (enumD 0 xs) O') := by first | rfl | (cases x <;> rfl)
theorem kZip_e1 (Q : List DV → Own → Prop) {xs : _} {ys : _} {O' : _} : kZip Q [.lst xs, .lst ys] O' = (Q (zipD xs ys) O') := by first | rfl | (cases x <;> rfl)
theorem frzC_e1 {xs : _} {K : _} : frzC  (some (.lst xs)) K = (K (.lst xs)) := by first | rfl | (cases x <;> rfl)
theorem frzC_e2 {xs : _} {K : _} : frzC  (some (.dK xs)) K = (K (.dK xs)) := by first | rfl | (cases x <;> rfl)
theorem frzC_e3 {xs : _} {K : _} : frzC  (some (.dT xs)) K = (K (.dT xs)) := by first | rfl | (cases x <;> rfl)
theorem dSlR_e1 {z : _} {lo : _} {hi : _} {O : _} {Q : _} : dSlR  (.str z) lo hi O Q = (z.length ≤ sizeLine ∧ Q (.str (cutS z lo hi)) O) := by first | rfl | (cases x <;> rfl)
theorem dSlR_e2 {xs : _} {lo : _} {hi : _} {O : _} {Q : _} : dSlR  (.tup xs) lo hi O Q = (Q (.tup (cutD xs lo hi)) O) := by first | rfl | (cases x <;> rfl)
theorem dSlR_e3 {xs : _} {lo : _} {hi : _} {O : _} {Q : _} : dSlR  (.lst xs) lo hi O Q = (Q (.lst (cutD xs lo hi)) O) := by first | rfl | (cases x <;> rfl)
theorem dSlR_e4 {xs : _} {lo : _} {hi : _} {O : _} {Q : _} : dSlR  (.slst xs) lo hi O Q = (Q (.lst (cutD xs lo hi)) O) := by first | rfl | (cases x <;> rfl)
theorem dSlR_e5 {a : _} {lo : _} {hi : _} {O : _} {Q : _} : dSlR  (.ref a) lo hi O Q = (onL (O a) fun xs => Q (.lst (cutD xs lo hi)) O) := by first | rfl | (cases x <;> rfl)
theorem dLen_e1 {y : _} {O : _} {Q : _} : dLen  [.str y] O Q = (y.length ≤ sizeLine ∧ Q (.int y.length) O) := by first | rfl | (cases x <;> rfl)
theorem dLen_e2 {xs : _} {O : _} {Q : _} : dLen  [.lst xs] O Q = (Q (.int xs.length) O) := by first | rfl | (cases x <;> rfl)
theorem dLen_e3 {xs : _} {O : _} {Q : _} : dLen  [.slst xs] O Q = (Q (.int xs.length) O) := by first | rfl | (cases x <;> rfl)
theorem dLen_e4 {xs : _} {O : _} {Q : _} : dLen  [.tup xs] O Q = (Q (.int xs.length) O) := by first | rfl | (cases x <;> rfl)
theorem dLen_e5 {xs : _} {O : _} {Q : _} : dLen  [.stup xs] O Q = (Q (.int xs.length) O) := by first | rfl | (cases x <;> rfl)
theorem dLen_e6 {a : _} {O : _} {Q : _} : dLen  [.ref a] O Q = (onL (O a) fun xs => Q (.int xs.length) O) := by first | rfl | (cases x <;> rfl)
theorem dInt_e1 {i : _} {O : _} {Q : _} : dInt  [.int i] O Q = (Q (.int i) O) := by first | rfl | (cases x <;> rfl)
theorem dInt_e2 {k : _} {O : _} {Q : _} : dInt  [.bl k] O Q = (Q (.int (if k then 1 else 0)) O) := by first | rfl | (cases x <;> rfl)
theorem dInt_e3 {a : _} {O : _} {Q : _} : dInt  [.str a] O Q = (∃ n, PySem.intText? a = some n ∧ a.length ≤ 640 ∧ Q (.int n) O) := by first | rfl | (cases x <;> rfl)
theorem dStrI_e1 {i : _} {O : _} {Q : _} : dStrI  [.int i] O Q = (i.natAbs.log2 < 1920 ∧ Q (.str (toString i)) O) := by first | rfl | (cases x <;> rfl)
theorem dIsi_e1 {d : _} {b : _} {O : _} {Q : _} : dIsi  [d, .ty b] O Q = (onSome (tyName O d) fun a => b ∈ ["int", "str", "bool", "list", "tuple", "dict"] ∧ Q (.bl (subTy a b)) O) := by first | rfl | (cases x <;> rfl)
theorem tyName_e1 (O : Own) : tyName O (.non) = (some "NoneType") := by first | rfl | (cases x <;> rfl)
theorem tyName_e2 (O : Own) {u1 : _} : tyName O (.bl u1) = (some "bool") := by first | rfl | (cases x <;> rfl)
theorem tyName_e3 (O : Own) {u1 : _} : tyName O (.int u1) = (some "int") := by first | rfl | (cases x <;> rfl)
theorem tyName_e4 (O : Own) {u1 : _} : tyName O (.str u1) = (some "str") := by first | rfl | (cases x <;> rfl)
theorem tyName_e5 (O : Own) {u1 : _} : tyName O (.tup u1) = (some "tuple") := by first | rfl | (cases x <;> rfl)
theorem tyName_e6 (O : Own) {u1 : _} : tyName O (.stup u1) = (some "tuple") := by first | rfl | (cases x <;> rfl)
theorem tyName_e7 (O : Own) {u1 : _} : tyName O (.lst u1) = (some "list") := by first | rfl | (cases x <;> rfl)
theorem tyName_e8 (O : Own) {u1 : _} : tyName O (.slst u1) = (some "list") := by first | rfl | (cases x <;> rfl)
theorem tyName_e9 (O : Own) {u1 : _} : tyName O (.dK u1) = (some "dict") := by first | rfl | (cases x <;> rfl)
theorem tyName_e10 (O : Own) {a : _} : tyName O (.ref a) = (match O a with
    | some (.lst _) => some "list"
    | some (.dK _) => some "dict"
    | some (.dT _) => some "dict"
    | _ => none) := by first | rfl | (cases x <;> rfl)
theorem dApp_e1 {a : _} {y : _} {O : _} {Q : _} : dApp  (.ref a) [y] O Q = (onL (O a) fun xs => xs.length < sizeLine ∧ Q .non (oset O a (.lst (xs ++ [y])))) := by first | rfl | (cases x <;> rfl)
theorem dJoin_e1 {a : _} {d : _} {O : _} {Q : _} : dJoin  (.str a) [d] O Q = (seqQ O d fun xs => onSome (strsOf xs) fun ys => (ys.map (·.length)).sum + ys.length * a.length ≤ 16777216 ∧ Q (.str (Txt.join a ys)) O) := by first | rfl | (cases x <;> rfl)
theorem dSplit_e1 {a : _} {b : _} {O : _} {Q : _} : dSplit  (.str a) [.str b] O Q = ((b.length == 0) = false ∧ a.length + 2 ≤ sizeLine ∧ Q (.lst ((Txt.split a b).map DV.str)) O) := by first | rfl | (cases x <;> rfl)
theorem dgNil_e1 {S : _} {O : _} {Q : _} : dgNil  [] S O Q = (Q S O) := by first | rfl | (cases x <;> rfl)
theorem dgCons_e1 (g : DTG) (u : DTGs) {d : _} {r : _} {S : _} {O : _} {Q : _} : dgCons g u (d :: r) S O Q = (g d S O fun S' O' => u r S' O' Q) := by first | rfl | (cases x <;> rfl)
theorem dgTup_e1 (n : Nat) (t : DTGs) {ds : _} {S : _} {O : _} {Q : _} : dgTup n t (.tup ds) S O Q = (ds.length = n ∧ t ds S O Q) := by first | rfl | (cases x <;> rfl)
theorem dSetL_e1 {a : _} {k : _} {v : _} {O : _} {Q : _} : dSetL  (.ref a) (.int k) v O Q = (onL (O a) fun xs => onSome (ixN xs.length k) fun j => Q (oset O a (.lst (xs.set j v)))) := by first | rfl | (cases x <;> rfl)
theorem dSetD_e1 {a : _} {z : _} {v : _} {O : _} {Q : _} : dSetD  (.ref a) (.str z) v O Q = (onK (O a) fun es => es.length < 16000000 ∧ Q (oset O a (.dK (dput es (.inr z) v)))) := by first | rfl | (cases x <;> rfl)
theorem dSetD_e2 {a : _} {z : _} {v : _} {O : _} {Q : _} : dSetD  (.ref a) (.int z) v O Q = (onK (O a) fun es => es.length < 16000000 ∧ Q (oset O a (.dK (dput es (.inl z) v)))) := by first | rfl | (cases x <;> rfl)
theorem dSetD_e3 {a : _} {ds : _} {v : _} {O : _} {Q : _} : dSetD  (.ref a) (.tup ds) v O Q = (onT (O a) fun es => onSome (keysD ds) fun k => es.length < 16000000 ∧ Q (oset O a (.dT (dput es k v)))) := by first | rfl | (cases x <;> rfl)
theorem dIAdd_e1 {i : _} {j : _} {O : _} {Q : _} : dIAdd  (.int i) (.int j) O Q = (Q (.int (i + j)) O) := by first | rfl | (cases x <;> rfl)
theorem dIAdd_e2 {a : _} {b : _} {O : _} {Q : _} : dIAdd  (.str a) (.str b) O Q = (a.length + b.length ≤ sizeLine ∧ Q (.str (a ++ b)) O) := by first | rfl | (cases x <;> rfl)
theorem dISub_e1 {i : _} {j : _} {O : _} {Q : _} : dISub  (.int i) (.int j) O Q = (Q (.int (i - j)) O) := by first | rfl | (cases x <;> rfl)
theorem apart_e1 (a : Addr) {b : _} : apart a (.ref b) = (a ≠ b) := by first | rfl | (cases x <;> rfl)
theorem dUpd_e1 {a : _} {d : _} {O : _} {Q : _} : dUpd  (.ref a) [d] O Q = (onK (O a) fun es => dkQ O d fun em => apart a d ∧ es.length + em.length ≤ 1000000 ∧ Q .non (oset O a (.dK (dmerge es em)))) := by first | rfl | (cases x <;> rfl)
theorem dMulS_e1 {z : _} {n : _} {O : _} {Q : _} : dMulS  (.str z) (.int n) O Q = ((n < 1000000 ∧ -1000000 < n ∧ z.length < 8) ∧ Q (.str (repS z n)) O) := by first | rfl | (cases x <;> rfl)
theorem dInL_e1 (a : Addr) (xs : List Str) {z : _} {b : _} {O : _} {Q : _} : dInL a xs (.str z) (.ref b) O Q = (b = a ∧ Q (.bl (decide (z ∈ xs))) O) := by first | rfl | (cases x <;> rfl)
theorem endLc_e1 {Q : _} {acc : _} {O : _} : endLc  false Q acc O = (Q (.lst acc) O) := by first | rfl | (cases x <;> rfl)
theorem endLc_e2 {Q : _} {acc : _} {O : _} : endLc  true Q acc O = (∀ p, O p = none → Q (.ref p) (oset O p (.lst acc))) := by first | rfl | (cases x <;> rfl)
theorem bindN_e1 (is : List Nat) {ds : _} {S : _} : bindN is (.tup ds) S = (setAll S is ds) := by first | rfl | (cases x <;> rfl)
theorem setAll_e1 {S : _} : setAll  S [] [] = (some S) := by first | rfl | (cases x <;> rfl)
theorem setAll_e2 {S : _} {i : _} {is : _} {d : _} {ds : _} : setAll  S (i :: is) (d :: ds) = (setAll (S.set i (some d)) is ds) := by first | rfl | (cases x <;> rfl)
theorem mTy_e1 (O : Own) {u1 : _} : mTy O (.str u1) = (some "str") := by first | rfl | (cases x <;> rfl)
theorem mTy_e2 (O : Own) {u1 : _} : mTy O (.lst u1) = (some "list") := by first | rfl | (cases x <;> rfl)
theorem mTy_e3 (O : Own) {u1 : _} : mTy O (.slst u1) = (some "list") := by first | rfl | (cases x <;> rfl)
theorem mTy_e4 (O : Own) {a : _} : mTy O (.ref a) = (match O a with
    | some (.lst _) => some "list"
    | some (.dK _) => some "dict"
    | some (.dT _) => some "dict"
    | _ => none) := by first | rfl | (cases x <;> rfl)
theorem strsOf_e1 : strsOf  [] = (some []) := by first | rfl | (cases x <;> rfl)
theorem strsOf_e2 {x : _} {r : _} : strsOf  (.str x :: r) = (match strsOf r with
    | some ys => some (x :: ys)
    | none => none) := by first | rfl | (cases x <;> rfl)
theorem keyD_e1 {x : _} : keyD  (.str x) = (some (.inr x)) := by first | rfl | (cases x <;> rfl)
theorem keyD_e2 {i : _} : keyD  (.int i) = (some (.inl i)) := by first | rfl | (cases x <;> rfl)
theorem keysD_e1 : keysD  [] = (some []) := by first | rfl | (cases x <;> rfl)
theorem keysD_e2 {d : _} {r : _} : keysD  (d :: r) = (match keyD d, keysD r with
    | some k, some ks => some (k :: ks)
    | _, _ => none) := by first | rfl | (cases x <;> rfl)
theorem forW_e1 (g : DTG) (tb : DTS) (D : DEnds) {S : _} {O : _} : forW g tb D [] S O = (D.nx S O) := by first | rfl | (cases x <;> rfl)
theorem forW_e2 (g : DTG) (tb : DTS) (D : DEnds) {x : _} {r : _} {S : _} {O : _} : forW g tb D (x :: r) S O = (g x S O fun S2 O2 => tb { D with nx := forW g tb D r, ct := forW g tb D r, bk := D.nx } S2 O2) := by first | rfl | (cases x <;> rfl)
theorem lcW_e1 (ow : Bool) (b : DV → DSt → Option DSt) (tt : DTT) (te : DTE) (S : DSt) (Q : DVK) {acc : _} {O : _} : lcW ow b tt te S Q [] acc O = (endLc ow Q acc O) := by first | rfl | (cases x <;> rfl)
theorem lcW_e2 (ow : Bool) (b : DV → DSt → Option DSt) (tt : DTT) (te : DTE) (S : DSt) (Q : DVK) {x : _} {r : _} {acc : _} {O : _} : lcW ow b tt te S Q (x :: r) acc O = (onSome (b x S) fun S2 => tt S2 O fun c O2 => if c = true then te S2 O2 fun y O3 => acc.length < 16000000 ∧ lcW ow b tt te S Q r (acc ++ [y]) O3 else lcW ow b tt te S Q r acc O2) := by first | rfl | (cases x <;> rfl)
theorem lcG_e1 (b : DV → DSt → Option DSt) (tt : DTT) (te : DTE) (S : DSt) (R : List DV → Own → Prop) {acc : _} {O : _} : lcG b tt te S R [] acc O = (R acc O) := by first | rfl | (cases x <;> rfl)
theorem lcG_e2 (b : DV → DSt → Option DSt) (tt : DTT) (te : DTE) (S : DSt) (R : List DV → Own → Prop) {x : _} {r : _} {acc : _} {O : _} : lcG b tt te S R (x :: r) acc O = (onSome (b x S) fun S2 => tt S2 O fun c O2 => if c = true then te S2 O2 fun y O3 => acc.length < 16000000 ∧ lcG b tt te S R r (acc ++ [y]) O3 else lcG b tt te S R r acc O2) := by first | rfl | (cases x <;> rfl)
theorem lc2W_e1 (ow : Bool) (b : DV → DSt → Option DSt) (tt : DTT) (di1 : DTI) (b1 : DV → DSt → Option DSt) (tt1 : DTT) (te : DTE) (vs1 : List Nat) (S : DSt) (Q : DVK) {acc : _} {O : _} : lc2W ow b tt di1 b1 tt1 te vs1 S Q [] acc O = (endLc ow Q acc O) := by first | rfl | (cases x <;> rfl)
theorem lc2W_e2 (ow : Bool) (b : DV → DSt → Option DSt) (tt : DTT) (di1 : DTI) (b1 : DV → DSt → Option DSt) (tt1 : DTT) (te : DTE) (vs1 : List Nat) (S : DSt) (Q : DVK) {x : _} {r : _} {acc : _} {O : _} : lc2W ow b tt di1 b1 tt1 te vs1 S Q (x :: r) acc O = (onSome (b x S) fun S2 => tt S2 O fun c O2 => if c = true then di1 S2 O2 fun ds1 O3 => lcG b1 tt1 te (dwipe S2 vs1) (lc2W ow b tt di1 b1 tt1 te vs1 S Q r) ds1 acc O3 else lc2W ow b tt di1 b1 tt1 te vs1 S Q r acc O2) := by first | rfl | (cases x <;> rfl)
theorem dPairs_e1 {u1 : _} {O : _} {Q : _} : dPairs  [] u1 O Q = (Q [] O) := by first | rfl | (cases x <;> rfl)
theorem dPairs_e2 {tk : _} {tv : _} {r : _} {S : _} {O : _} {Q : _} : dPairs  ((tk, tv) :: r) S O Q = (tk S O fun x O1 => tv S O1 fun y O2 => dPairs r S O2 fun ps O3 => Q ((x, y) :: ps) O3) := by first | rfl | (cases x <;> rfl)
theorem kvsOf_e1 : kvsOf  [] = (some []) := by first | rfl | (cases x <;> rfl)
theorem kvsOf_e2 {k : _} {v : _} {r : _} : kvsOf  ((k, v) :: r) = (match keyD k, kvsOf r with
    | some k', some r' => some ((k', v) :: r')
    | _, _ => none) := by first | rfl | (cases x <;> rfl)
theorem slot_e1 {x : _} {u1 : _} : slot  (x :: u1) 0 = (x) := by first | rfl | (cases x <;> rfl)
theorem slot_e2 {u1 : _} {r : _} {n : _} : slot  (u1 :: r) (n + 1) = (slot r n) := by first | rfl | (cases x <;> rfl)
theorem dwipe_e1 (S : DSt) : dwipe S [] = (S) := by first | rfl | (cases x <;> rfl)
theorem dwipe_e2 (S : DSt) {v : _} {vs : _} : dwipe S (v :: vs) = ((dwipe S vs).set v none) := by first | rfl | (cases x <;> rfl)
theorem enumD_e1 {u1 : _} : enumD  u1 [] = ([]) := by first | rfl | (cases x <;> rfl)
theorem enumD_e2 {n : _} {x : _} {r : _} : enumD  n (x :: r) = (.tup [.int (n : Int), x] :: enumD (n + 1) r) := by first | rfl | (cases x <;> rfl)
theorem zipD_e1 {x : _} {r : _} {y : _} {q : _} : zipD  (x :: r) (y :: q) = (.tup [x, y] :: zipD r q) := by first | rfl | (cases x <;> rfl)
theorem dstart_e1 {u1 : _} : dstart  0 u1 = ([]) := by first | rfl | (cases x <;> rfl)
theorem dstart_e2 {n : _} : dstart  (n + 1) [] = (none :: dstart n []) := by first | rfl | (cases x <;> rfl)
theorem dstart_e3 {n : _} {d : _} {ds : _} : dstart  (n + 1) (d :: ds) = (some d :: dstart n ds) := by first | rfl | (cases x <;> rfl)
theorem flatD_e1 : flatD  (.non) = (true) := by first | rfl | (cases x <;> rfl)
theorem flatD_e2 {u1 : _} : flatD  (.bl u1) = (true) := by first | rfl | (cases x <;> rfl)
theorem flatD_e3 {u1 : _} : flatD  (.int u1) = (true) := by first | rfl | (cases x <;> rfl)
theorem flatD_e4 {u1 : _} : flatD  (.str u1) = (true) := by first | rfl | (cases x <;> rfl)
theorem eqF_e1 : eqF  (.non) (.non) = (true) := by first | rfl | (cases x <;> rfl)
theorem eqF_e2 {a : _} {b : _} : eqF  (.bl a) (.bl b) = (a == b) := by first | rfl | (cases x <;> rfl)
theorem eqF_e3 {a : _} {b : _} : eqF  (.bl a) (.int b) = ((if a then 1 else 0) == b) := by first | rfl | (cases x <;> rfl)
theorem eqF_e4 {a : _} {b : _} : eqF  (.int a) (.bl b) = (a == (if b then 1 else 0)) := by first | rfl | (cases x <;> rfl)
theorem eqF_e5 {a : _} {b : _} : eqF  (.int a) (.int b) = (a == b) := by first | rfl | (cases x <;> rfl)
theorem eqF_e6 {a : _} {b : _} : eqF  (.str a) (.str b) = (a == b) := by first | rfl | (cases x <;> rfl)
theorem dTupOf_e1 {xs : _} {O : _} {Q : _} : dTupOf  [.lst xs] O Q = (Q (.tup xs) O) := by first | rfl | (cases x <;> rfl)
theorem dTupOf_e2 {xs : _} {O : _} {Q : _} : dTupOf  [.tup xs] O Q = (Q (.tup xs) O) := by first | rfl | (cases x <;> rfl)
theorem dTupOf_e3 {a : _} {O : _} {Q : _} : dTupOf  [.ref a] O Q = (onL (O a) fun xs => Q (.tup xs) O) := by first | rfl | (cases x <;> rfl)
theorem dListOf_e1 {d : _} {O : _} {Q : _} : dListOf  [d] O Q = (seqQ O d fun xs => ∀ p, O p = none → Q (.ref p) (oset O p (.lst xs))) := by first | rfl | (cases x <;> rfl)
theorem dMin2_e1 {i : _} {j : _} {O : _} {Q : _} : dMin2  [.int i, .int j] O Q = (Q (.int (if j < i then j else i)) O) := by first | rfl | (cases x <;> rfl)
theorem dExt_e1 {a : _} {d : _} {O : _} {Q : _} : dExt  (.ref a) [d] O Q = (onL (O a) fun xs => lstQ O d fun zs => xs.length + zs.length ≤ sizeLine ∧ Q .non (oset O a (.lst (xs ++ zs)))) := by first | rfl | (cases x <;> rfl)
theorem dMulL_e1 {d : _} {k : _} {O : _} {Q : _} : dMulL  d (.int k) O Q = (lstQ O d fun xs => -(2 ^ 63) ≤ k ∧ k < 2 ^ 63 ∧ xs.length * k.toNat ≤ sizeLine ∧ Q (.lst (List.replicate k.toNat xs).flatten) O) := by first | rfl | (cases x <;> rfl)
theorem dIsD_e1 (O : Own) {u1 : _} : dIsD O (.dK u1) = (True) := by first | rfl | (cases x <;> rfl)
theorem dIsD_e2 (O : Own) {u1 : _} : dIsD O (.dT u1) = (True) := by first | rfl | (cases x <;> rfl)
theorem dIsD_e3 (O : Own) {a : _} : dIsD O (.ref a) = (match O a with
    | some (.dK _) => True
    | some (.dT _) => True
    | _ => False) := by first | rfl | (cases x <;> rfl)
theorem dSortD_e1 {d : _} {O : _} {Q : _} : dSortD  [d] O Q = (dkQ O d fun es => ∃ ks : List Str, es.map (·.1) = ks.map Sum.inr ∧ ks.length < 64 ∧ ∀ ys : List Str, ys.Perm ks → Q (.lst (ys.map DV.str)) O) := by first | rfl | (cases x <;> rfl)
theorem kStr1_e1 (Q : Str → Own → Prop) {k : _} {O : _} : kStr1 Q (.str k) O = (Q k O) := by first | rfl | (cases x <;> rfl)
theorem klook_e1 {x : _} {xs : _} {z : _} : klook  (x :: xs) z = (if x.1 = z then some x.2 else klook xs z) := by first | rfl | (cases x <;> rfl)
end DL

set_option Elab.async false
set_option linter.all false
set_option maxRecDepth 100000
set_option autoImplicit true
namespace DL
open PySem PySem.Spec PyProof.Rows L2 TL
theorem dVar_n0 {x : DV} {r : DSt} {O : Own} {Q : DVK} : dVar 0 (some x :: r) O Q = Q x O := rfl
theorem dgName_n0 {x : DV} {y : Option DV} {r : DSt} {O : Own} {Q : DSt → Own → Prop} : dgName 0 x (y :: r) O Q = Q (some x :: r) O := rfl
theorem obind_n0 {x : DV} {y : Option DV} {r : DSt} {K : DSt → Prop} : onSome (bind1 0 x (y :: r)) K = K (some x :: r) := rfl
theorem oslot_n0 {x : DV} {r : DSt} {K : DV → Prop} : onSome (slot (some x :: r) 0) K = K x := rfl
theorem dVar_n1 {a0 : Option DV} {x : DV} {r : DSt} {O : Own} {Q : DVK} : dVar 1 (a0 :: some x :: r) O Q = Q x O := rfl
theorem dgName_n1 {a0 : Option DV} {x : DV} {y : Option DV} {r : DSt} {O : Own} {Q : DSt → Own → Prop} : dgName 1 x (a0 :: y :: r) O Q = Q (a0 :: some x :: r) O := rfl
theorem obind_n1 {a0 : Option DV} {x : DV} {y : Option DV} {r : DSt} {K : DSt → Prop} : onSome (bind1 1 x (a0 :: y :: r)) K = K (a0 :: some x :: r) := rfl
theorem oslot_n1 {a0 : Option DV} {x : DV} {r : DSt} {K : DV → Prop} : onSome (slot (a0 :: some x :: r) 1) K = K x := rfl
theorem dVar_n2 {a0 : Option DV} {a1 : Option DV} {x : DV} {r : DSt} {O : Own} {Q : DVK} : dVar 2 (a0 :: a1 :: some x :: r) O Q = Q x O := rfl
theorem dgName_n2 {a0 : Option DV} {a1 : Option DV} {x : DV} {y : Option DV} {r : DSt} {O : Own} {Q : DSt → Own → Prop} : dgName 2 x (a0 :: a1 :: y :: r) O Q = Q (a0 :: a1 :: some x :: r) O := rfl
theorem obind_n2 {a0 : Option DV} {a1 : Option DV} {x : DV} {y : Option DV} {r : DSt} {K : DSt → Prop} : onSome (bind1 2 x (a0 :: a1 :: y :: r)) K = K (a0 :: a1 :: some x :: r) := rfl
theorem oslot_n2 {a0 : Option DV} {a1 : Option DV} {x : DV} {r : DSt} {K : DV → Prop} : onSome (slot (a0 :: a1 :: some x :: r) 2) K = K x := rfl
theorem dVar_n3 {a0 : Option DV} {a1 : Option DV} {a2 : Option DV} {x : DV} {r : DSt} {O : Own} {Q : DVK} : dVar 3 (a0 :: a1 :: a2 :: some x :: r) O Q = Q x O := rfl
theorem dgName_n3 {a0 : Option DV} {a1 : Option DV} {a2 : Option DV} {x : DV} {y : Option DV} {r : DSt} {O : Own} {Q : DSt → Own → Prop} : dgName 3 x (a0 :: a1 :: a2 :: y :: r) O Q = Q (a0 :: a1 :: a2 :: some x :: r) O := rfl
theorem obind_n3 {a0 : Option DV} {a1 : Option DV} {a2 : Option DV} {x : DV} {y : Option DV} {r : DSt} {K : DSt → Prop} : onSome (bind1 3 x (a0 :: a1 :: a2 :: y :: r)) K = K (a0 :: a1 :: a2 :: some x :: r) := rfl
theorem oslot_n3 {a0 : Option DV} {a1 : Option DV} {a2 : Option DV} {x : DV} {r : DSt} {K : DV → Prop} : onSome (slot (a0 :: a1 :: a2 :: some x :: r) 3) K = K x := rfl
theorem dVar_n4 {a0 : Option DV} {a1 : Option DV} {a2 : Option DV} {a3 : Option DV} {x : DV} {r : DSt} {O : Own} {Q : DVK} : dVar 4 (a0 :: a1 :: a2 :: a3 :: some x :: r) O Q = Q x O := rfl
theorem dgName_n4 {a0 : Option DV} {a1 : Option DV} {a2 : Option DV} {a3 : Option DV} {x : DV} {y : Option DV} {r : DSt} {O : Own} {Q : DSt → Own → Prop} : dgName 4 x (a0 :: a1 :: a2 :: a3 :: y :: r) O Q = Q (a0 :: a1 :: a2 :: a3 :: some x :: r) O := rfl
theorem obind_n4 {a0 : Option DV} {a1 : Option DV} {a2 : Option DV} {a3 : Option DV} {x : DV} {y : Option DV} {r : DSt} {K : DSt → Prop} : onSome (bind1 4 x (a0 :: a1 :: a2 :: a3 :: y :: r)) K = K (a0 :: a1 :: a2 :: a3 :: some x :: r) := rfl
theorem oslot_n4 {a0 : Option DV} {a1 : Option DV} {a2 : Option DV} {a3 : Option DV} {x : DV} {r : DSt} {K : DV → Prop} : onSome (slot (a0 :: a1 :: a2 :: a3 :: some x :: r) 4) K = K x := rfl
theorem dVar_n5 {a0 : Option DV} {a1 : Option DV} {a2 : Option DV} {a3 : Option DV} {a4 : Option DV} {x : DV} {r : DSt} {O : Own} {Q : DVK} : dVar 5 (a0 :: a1 :: a2 :: a3 :: a4 :: some x :: r) O Q = Q x O := rfl
theorem dgName_n5 {a0 : Option DV} {a1 : Option DV} {a2 : Option DV} {a3 : Option DV} {a4 : Option DV} {x : DV} {y : Option DV} {r : DSt} {O : Own} {Q : DSt → Own → Prop} : dgName 5 x (a0 :: a1 :: a2 :: a3 :: a4 :: y :: r) O Q = Q (a0 :: a1 :: a2 :: a3 :: a4 :: some x :: r) O := rfl
theorem obind_n5 {a0 : Option DV} {a1 : Option DV} {a2 : Option DV} {a3 : Option DV} {a4 : Option DV} {x : DV} {y : Option DV} {r : DSt} {K : DSt → Prop} : onSome (bind1 5 x (a0 :: a1 :: a2 :: a3 :: a4 :: y :: r)) K = K (a0 :: a1 :: a2 :: a3 :: a4 :: some x :: r) := rfl
theorem oslot_n5 {a0 : Option DV} {a1 : Option DV} {a2 : Option DV} {a3 : Option DV} {a4 : Option DV} {x : DV} {r : DSt} {K : DV → Prop} : onSome (slot (a0 :: a1 :: a2 :: a3 :: a4 :: some x :: r) 5) K = K x := rfl
theorem dVar_n6 {a0 : Option DV} {a1 : Option DV} {a2 : Option DV} {a3 : Option DV} {a4 : Option DV} {a5 : Option DV} {x : DV} {r : DSt} {O : Own} {Q : DVK} : dVar 6 (a0 :: a1 :: a2 :: a3 :: a4 :: a5 :: some x :: r) O Q = Q x O := rfl
theorem dgName_n6 {a0 : Option DV} {a1 : Option DV} {a2 : Option DV} {a3 : Option DV} {a4 : Option DV} {a5 : Option DV} {x : DV} {y : Option DV} {r : DSt} {O : Own} {Q : DSt → Own → Prop} : dgName 6 x (a0 :: a1 :: a2 :: a3 :: a4 :: a5 :: y :: r) O Q = Q (a0 :: a1 :: a2 :: a3 :: a4 :: a5 :: some x :: r) O := rfl
theorem obind_n6 {a0 : Option DV} {a1 : Option DV} {a2 : Option DV} {a3 : Option DV} {a4 : Option DV} {a5 : Option DV} {x : DV} {y : Option DV} {r : DSt} {K : DSt → Prop} : onSome (bind1 6 x (a0 :: a1 :: a2 :: a3 :: a4 :: a5 :: y :: r)) K = K (a0 :: a1 :: a2 :: a3 :: a4 :: a5 :: some x :: r) := rfl
theorem oslot_n6 {a0 : Option DV} {a1 : Option DV} {a2 : Option DV} {a3 : Option DV} {a4 : Option DV} {a5 : Option DV} {x : DV} {r : DSt} {K : DV → Prop} : onSome (slot (a0 :: a1 :: a2 :: a3 :: a4 :: a5 :: some x :: r) 6) K = K x := rfl
theorem dVar_n7 {a0 : Option DV} {a1 : Option DV} {a2 : Option DV} {a3 : Option DV} {a4 : Option DV} {a5 : Option DV} {a6 : Option DV} {x : DV} {r : DSt} {O : Own} {Q : DVK} : dVar 7 (a0 :: a1 :: a2 :: a3 :: a4 :: a5 :: a6 :: some x :: r) O Q = Q x O := rfl
theorem dgName_n7 {a0 : Option DV} {a1 : Option DV} {a2 : Option DV} {a3 : Option DV} {a4 : Option DV} {a5 : Option DV} {a6 : Option DV} {x : DV} {y : Option DV} {r : DSt} {O : Own} {Q : DSt → Own → Prop} : dgName 7 x (a0 :: a1 :: a2 :: a3 :: a4 :: a5 :: a6 :: y :: r) O Q = Q (a0 :: a1 :: a2 :: a3 :: a4 :: a5 :: a6 :: some x :: r) O := rfl
theorem obind_n7 {a0 : Option DV} {a1 : Option DV} {a2 : Option DV} {a3 : Option DV} {a4 : Option DV} {a5 : Option DV} {a6 : Option DV} {x : DV} {y : Option DV} {r : DSt} {K : DSt → Prop} : onSome (bind1 7 x (a0 :: a1 :: a2 :: a3 :: a4 :: a5 :: a6 :: y :: r)) K = K (a0 :: a1 :: a2 :: a3 :: a4 :: a5 :: a6 :: some x :: r) := rfl
theorem oslot_n7 {a0 : Option DV} {a1 : Option DV} {a2 : Option DV} {a3 : Option DV} {a4 : Option DV} {a5 : Option DV} {a6 : Option DV} {x : DV} {r : DSt} {K : DV → Prop} : onSome (slot (a0 :: a1 :: a2 :: a3 :: a4 :: a5 :: a6 :: some x :: r) 7) K = K x := rfl
theorem dVar_n8 {a0 : Option DV} {a1 : Option DV} {a2 : Option DV} {a3 : Option DV} {a4 : Option DV} {a5 : Option DV} {a6 : Option DV} {a7 : Option DV} {x : DV} {r : DSt} {O : Own} {Q : DVK} : dVar 8 (a0 :: a1 :: a2 :: a3 :: a4 :: a5 :: a6 :: a7 :: some x :: r) O Q = Q x O := rfl
theorem dgName_n8 {a0 : Option DV} {a1 : Option DV} {a2 : Option DV} {a3 : Option DV} {a4 : Option DV} {a5 : Option DV} {a6 : Option DV} {a7 : Option DV} {x : DV} {y : Option DV} {r : DSt} {O : Own} {Q : DSt → Own → Prop} : dgName 8 x (a0 :: a1 :: a2 :: a3 :: a4 :: a5 :: a6 :: a7 :: y :: r) O Q = Q (a0 :: a1 :: a2 :: a3 :: a4 :: a5 :: a6 :: a7 :: some x :: r) O := rfl
theorem obind_n8 {a0 : Option DV} {a1 : Option DV} {a2 : Option DV} {a3 : Option DV} {a4 : Option DV} {a5 : Option DV} {a6 : Option DV} {a7 : Option DV} {x : DV} {y : Option DV} {r : DSt} {K : DSt → Prop} : onSome (bind1 8 x (a0 :: a1 :: a2 :: a3 :: a4 :: a5 :: a6 :: a7 :: y :: r)) K = K (a0 :: a1 :: a2 :: a3 :: a4 :: a5 :: a6 :: a7 :: some x :: r) := rfl
theorem oslot_n8 {a0 : Option DV} {a1 : Option DV} {a2 : Option DV} {a3 : Option DV} {a4 : Option DV} {a5 : Option DV} {a6 : Option DV} {a7 : Option DV} {x : DV} {r : DSt} {K : DV → Prop} : onSome (slot (a0 :: a1 :: a2 :: a3 :: a4 :: a5 :: a6 :: a7 :: some x :: r) 8) K = K x := rfl
theorem dVar_n9 {a0 : Option DV} {a1 : Option DV} {a2 : Option DV} {a3 : Option DV} {a4 : Option DV} {a5 : Option DV} {a6 : Option DV} {a7 : Option DV} {a8 : Option DV} {x : DV} {r : DSt} {O : Own} {Q : DVK} : dVar 9 (a0 :: a1 :: a2 :: a3 :: a4 :: a5 :: a6 :: a7 :: a8 :: some x :: r) O Q = Q x O := rfl
theorem dgName_n9 {a0 : Option DV} {a1 : Option DV} {a2 : Option DV} {a3 : Option DV} {a4 : Option DV} {a5 : Option DV} {a6 : Option DV} {a7 : Option DV} {a8 : Option DV} {x : DV} {y : Option DV} {r : DSt} {O : Own} {Q : DSt → Own → Prop} : dgName 9 x (a0 :: a1 :: a2 :: a3 :: a4 :: a5 :: a6 :: a7 :: a8 :: y :: r) O Q = Q (a0 :: a1 :: a2 :: a3 :: a4 :: a5 :: a6 :: a7 :: a8 :: some x :: r) O := rfl
theorem obind_n9 {a0 : Option DV} {a1 : Option DV} {a2 : Option DV} {a3 : Option DV} {a4 : Option DV} {a5 : Option DV} {a6 : Option DV} {a7 : Option DV} {a8 : Option DV} {x : DV} {y : Option DV} {r : DSt} {K : DSt → Prop} : onSome (bind1 9 x (a0 :: a1 :: a2 :: a3 :: a4 :: a5 :: a6 :: a7 :: a8 :: y :: r)) K = K (a0 :: a1 :: a2 :: a3 :: a4 :: a5 :: a6 :: a7 :: a8 :: some x :: r) := rfl
theorem oslot_n9 {a0 : Option DV} {a1 : Option DV} {a2 : Option DV} {a3 : Option DV} {a4 : Option DV} {a5 : Option DV} {a6 : Option DV} {a7 : Option DV} {a8 : Option DV} {x : DV} {r : DSt} {K : DV → Prop} : onSome (slot (a0 :: a1 :: a2 :: a3 :: a4 :: a5 :: a6 :: a7 :: a8 :: some x :: r) 9) K = K x := rfl
theorem dVar_n10 {a0 : Option DV} {a1 : Option DV} {a2 : Option DV} {a3 : Option DV} {a4 : Option DV} {a5 : Option DV} {a6 : Option DV} {a7 : Option DV} {a8 : Option DV} {a9 : Option DV} {x : DV} {r : DSt} {O : Own} {Q : DVK} : dVar 10 (a0 :: a1 :: a2 :: a3 :: a4 :: a5 :: a6 :: a7 :: a8 :: a9 :: some x :: r) O Q = Q x O := rfl
theorem dgName_n10 {a0 : Option DV} {a1 : Option DV} {a2 : Option DV} {a3 : Option DV} {a4 : Option DV} {a5 : Option DV} {a6 : Option DV} {a7 : Option DV} {a8 : Option DV} {a9 : Option DV} {x : DV} {y : Option DV} {r : DSt} {O : Own} {Q : DSt → Own → Prop} : dgName 10 x (a0 :: a1 :: a2 :: a3 :: a4 :: a5 :: a6 :: a7 :: a8 :: a9 :: y :: r) O Q = Q (a0 :: a1 :: a2 :: a3 :: a4 :: a5 :: a6 :: a7 :: a8 :: a9 :: some x :: r) O := rfl
theorem obind_n10 {a0 : Option DV} {a1 : Option DV} {a2 : Option DV} {a3 : Option DV} {a4 : Option DV} {a5 : Option DV} {a6 : Option DV} {a7 : Option DV} {a8 : Option DV} {a9 : Option DV} {x : DV} {y : Option DV} {r : DSt} {K : DSt → Prop} : onSome (bind1 10 x (a0 :: a1 :: a2 :: a3 :: a4 :: a5 :: a6 :: a7 :: a8 :: a9 :: y :: r)) K = K (a0 :: a1 :: a2 :: a3 :: a4 :: a5 :: a6 :: a7 :: a8 :: a9 :: some x :: r) := rfl
theorem oslot_n10 {a0 : Option DV} {a1 : Option DV} {a2 : Option DV} {a3 : Option DV} {a4 : Option DV} {a5 : Option DV} {a6 : Option DV} {a7 : Option DV} {a8 : Option DV} {a9 : Option DV} {x : DV} {r : DSt} {K : DV → Prop} : onSome (slot (a0 :: a1 :: a2 :: a3 :: a4 :: a5 :: a6 :: a7 :: a8 :: a9 :: some x :: r) 10) K = K x := rfl
theorem dVar_n11 {a0 : Option DV} {a1 : Option DV} {a2 : Option DV} {a3 : Option DV} {a4 : Option DV} {a5 : Option DV} {a6 : Option DV} {a7 : Option DV} {a8 : Option DV} {a9 : Option DV} {a10 : Option DV} {x : DV} {r : DSt} {O : Own} {Q : DVK} : dVar 11 (a0 :: a1 :: a2 :: a3 :: a4 :: a5 :: a6 :: a7 :: a8 :: a9 :: a10 :: some x :: r) O Q = Q x O := rfl
theorem dgName_n11 {a0 : Option DV} {a1 : Option DV} {a2 : Option DV} {a3 : Option DV} {a4 : Option DV} {a5 : Option DV} {a6 : Option DV} {a7 : Option DV} {a8 : Option DV} {a9 : Option DV} {a10 : Option DV} {x : DV} {y : Option DV} {r : DSt} {O : Own} {Q : DSt → Own → Prop} : dgName 11 x (a0 :: a1 :: a2 :: a3 :: a4 :: a5 :: a6 :: a7 :: a8 :: a9 :: a10 :: y :: r) O Q = Q (a0 :: a1 :: a2 :: a3 :: a4 :: a5 :: a6 :: a7 :: a8 :: a9 :: a10 :: some x :: r) O := rfl
theorem obind_n11 {a0 : Option DV} {a1 : Option DV} {a2 : Option DV} {a3 : Option DV} {a4 : Option DV} {a5 : Option DV} {a6 : Option DV} {a7 : Option DV} {a8 : Option DV} {a9 : Option DV} {a10 : Option DV} {x : DV} {y : Option DV} {r : DSt} {K : DSt → Prop} : onSome (bind1 11 x (a0 :: a1 :: a2 :: a3 :: a4 :: a5 :: a6 :: a7 :: a8 :: a9 :: a10 :: y :: r)) K = K (a0 :: a1 :: a2 :: a3 :: a4 :: a5 :: a6 :: a7 :: a8 :: a9 :: a10 :: some x :: r) := rfl
theorem oslot_n11 {a0 : Option DV} {a1 : Option DV} {a2 : Option DV} {a3 : Option DV} {a4 : Option DV} {a5 : Option DV} {a6 : Option DV} {a7 : Option DV} {a8 : Option DV} {a9 : Option DV} {a10 : Option DV} {x : DV} {r : DSt} {K : DV → Prop} : onSome (slot (a0 :: a1 :: a2 :: a3 :: a4 :: a5 :: a6 :: a7 :: a8 :: a9 :: a10 :: some x :: r) 11) K = K x := rfl
theorem dVar_n12 {a0 : Option DV} {a1 : Option DV} {a2 : Option DV} {a3 : Option DV} {a4 : Option DV} {a5 : Option DV} {a6 : Option DV} {a7 : Option DV} {a8 : Option DV} {a9 : Option DV} {a10 : Option DV} {a11 : Option DV} {x : DV} {r : DSt} {O : Own} {Q : DVK} : dVar 12 (a0 :: a1 :: a2 :: a3 :: a4 :: a5 :: a6 :: a7 :: a8 :: a9 :: a10 :: a11 :: some x :: r) O Q = Q x O := rfl
theorem dgName_n12 {a0 : Option DV} {a1 : Option DV} {a2 : Option DV} {a3 : Option DV} {a4 : Option DV} {a5 : Option DV} {a6 : Option DV} {a7 : Option DV} {a8 : Option DV} {a9 : Option DV} {a10 : Option DV} {a11 : Option DV} {x : DV} {y : Option DV} {r : DSt} {O : Own} {Q : DSt → Own → Prop} : dgName 12 x (a0 :: a1 :: a2 :: a3 :: a4 :: a5 :: a6 :: a7 :: a8 :: a9 :: a10 :: a11 :: y :: r) O Q = Q (a0 :: a1 :: a2 :: a3 :: a4 :: a5 :: a6 :: a7 :: a8 :: a9 :: a10 :: a11 :: some x :: r) O := rfl
theorem obind_n12 {a0 : Option DV} {a1 : Option DV} {a2 : Option DV} {a3 : Option DV} {a4 : Option DV} {a5 : Option DV} {a6 : Option DV} {a7 : Option DV} {a8 : Option DV} {a9 : Option DV} {a10 : Option DV} {a11 : Option DV} {x : DV} {y : Option DV} {r : DSt} {K : DSt → Prop} : onSome (bind1 12 x (a0 :: a1 :: a2 :: a3 :: a4 :: a5 :: a6 :: a7 :: a8 :: a9 :: a10 :: a11 :: y :: r)) K = K (a0 :: a1 :: a2 :: a3 :: a4 :: a5 :: a6 :: a7 :: a8 :: a9 :: a10 :: a11 :: some x :: r) := rfl
theorem oslot_n12 {a0 : Option DV} {a1 : Option DV} {a2 : Option DV} {a3 : Option DV} {a4 : Option DV} {a5 : Option DV} {a6 : Option DV} {a7 : Option DV} {a8 : Option DV} {a9 : Option DV} {a10 : Option DV} {a11 : Option DV} {x : DV} {r : DSt} {K : DV → Prop} : onSome (slot (a0 :: a1 :: a2 :: a3 :: a4 :: a5 :: a6 :: a7 :: a8 :: a9 :: a10 :: a11 :: some x :: r) 12) K = K x := rfl
theorem dVar_n13 {a0 : Option DV} {a1 : Option DV} {a2 : Option DV} {a3 : Option DV} {a4 : Option DV} {a5 : Option DV} {a6 : Option DV} {a7 : Option DV} {a8 : Option DV} {a9 : Option DV} {a10 : Option DV} {a11 : Option DV} {a12 : Option DV} {x : DV} {r : DSt} {O : Own} {Q : DVK} : dVar 13 (a0 :: a1 :: a2 :: a3 :: a4 :: a5 :: a6 :: a7 :: a8 :: a9 :: a10 :: a11 :: a12 :: some x :: r) O Q = Q x O := rfl
theorem dgName_n13 {a0 : Option DV} {a1 : Option DV} {a2 : Option DV} {a3 : Option DV} {a4 : Option DV} {a5 : Option DV} {a6 : Option DV} {a7 : Option DV} {a8 : Option DV} {a9 : Option DV} {a10 : Option DV} {a11 : Option DV} {a12 : Option DV} {x : DV} {y : Option DV} {r : DSt} {O : Own} {Q : DSt → Own → Prop} : dgName 13 x (a0 :: a1 :: a2 :: a3 :: a4 :: a5 :: a6 :: a7 :: a8 :: a9 :: a10 :: a11 :: a12 :: y :: r) O Q = Q (a0 :: a1 :: a2 :: a3 :: a4 :: a5 :: a6 :: a7 :: a8 :: a9 :: a10 :: a11 :: a12 :: some x :: r) O := rfl
theorem obind_n13 {a0 : Option DV} {a1 : Option DV} {a2 : Option DV} {a3 : Option DV} {a4 : Option DV} {a5 : Option DV} {a6 : Option DV} {a7 : Option DV} {a8 : Option DV} {a9 : Option DV} {a10 : Option DV} {a11 : Option DV} {a12 : Option DV} {x : DV} {y : Option DV} {r : DSt} {K : DSt → Prop} : onSome (bind1 13 x (a0 :: a1 :: a2 :: a3 :: a4 :: a5 :: a6 :: a7 :: a8 :: a9 :: a10 :: a11 :: a12 :: y :: r)) K = K (a0 :: a1 :: a2 :: a3 :: a4 :: a5 :: a6 :: a7 :: a8 :: a9 :: a10 :: a11 :: a12 :: some x :: r) := rfl
theorem oslot_n13 {a0 : Option DV} {a1 : Option DV} {a2 : Option DV} {a3 : Option DV} {a4 : Option DV} {a5 : Option DV} {a6 : Option DV} {a7 : Option DV} {a8 : Option DV} {a9 : Option DV} {a10 : Option DV} {a11 : Option DV} {a12 : Option DV} {x : DV} {r : DSt} {K : DV → Prop} : onSome (slot (a0 :: a1 :: a2 :: a3 :: a4 :: a5 :: a6 :: a7 :: a8 :: a9 :: a10 :: a11 :: a12 :: some x :: r) 13) K = K x := rfl
theorem dVar_n14 {a0 : Option DV} {a1 : Option DV} {a2 : Option DV} {a3 : Option DV} {a4 : Option DV} {a5 : Option DV} {a6 : Option DV} {a7 : Option DV} {a8 : Option DV} {a9 : Option DV} {a10 : Option DV} {a11 : Option DV} {a12 : Option DV} {a13 : Option DV} {x : DV} {r : DSt} {O : Own} {Q : DVK} : dVar 14 (a0 :: a1 :: a2 :: a3 :: a4 :: a5 :: a6 :: a7 :: a8 :: a9 :: a10 :: a11 :: a12 :: a13 :: some x :: r) O Q = Q x O := rfl
theorem dgName_n14 {a0 : Option DV} {a1 : Option DV} {a2 : Option DV} {a3 : Option DV} {a4 : Option DV} {a5 : Option DV} {a6 : Option DV} {a7 : Option DV} {a8 : Option DV} {a9 : Option DV} {a10 : Option DV} {a11 : Option DV} {a12 : Option DV} {a13 : Option DV} {x : DV} {y : Option DV} {r : DSt} {O : Own} {Q : DSt → Own → Prop} : dgName 14 x (a0 :: a1 :: a2 :: a3 :: a4 :: a5 :: a6 :: a7 :: a8 :: a9 :: a10 :: a11 :: a12 :: a13 :: y :: r) O Q = Q (a0 :: a1 :: a2 :: a3 :: a4 :: a5 :: a6 :: a7 :: a8 :: a9 :: a10 :: a11 :: a12 :: a13 :: some x :: r) O := rfl
theorem obind_n14 {a0 : Option DV} {a1 : Option DV} {a2 : Option DV} {a3 : Option DV} {a4 : Option DV} {a5 : Option DV} {a6 : Option DV} {a7 : Option DV} {a8 : Option DV} {a9 : Option DV} {a10 : Option DV} {a11 : Option DV} {a12 : Option DV} {a13 : Option DV} {x : DV} {y : Option DV} {r : DSt} {K : DSt → Prop} : onSome (bind1 14 x (a0 :: a1 :: a2 :: a3 :: a4 :: a5 :: a6 :: a7 :: a8 :: a9 :: a10 :: a11 :: a12 :: a13 :: y :: r)) K = K (a0 :: a1 :: a2 :: a3 :: a4 :: a5 :: a6 :: a7 :: a8 :: a9 :: a10 :: a11 :: a12 :: a13 :: some x :: r) := rfl
theorem oslot_n14 {a0 : Option DV} {a1 : Option DV} {a2 : Option DV} {a3 : Option DV} {a4 : Option DV} {a5 : Option DV} {a6 : Option DV} {a7 : Option DV} {a8 : Option DV} {a9 : Option DV} {a10 : Option DV} {a11 : Option DV} {a12 : Option DV} {a13 : Option DV} {x : DV} {r : DSt} {K : DV → Prop} : onSome (slot (a0 :: a1 :: a2 :: a3 :: a4 :: a5 :: a6 :: a7 :: a8 :: a9 :: a10 :: a11 :: a12 :: a13 :: some x :: r) 14) K = K x := rfl
theorem dVar_n15 {a0 : Option DV} {a1 : Option DV} {a2 : Option DV} {a3 : Option DV} {a4 : Option DV} {a5 : Option DV} {a6 : Option DV} {a7 : Option DV} {a8 : Option DV} {a9 : Option DV} {a10 : Option DV} {a11 : Option DV} {a12 : Option DV} {a13 : Option DV} {a14 : Option DV} {x : DV} {r : DSt} {O : Own} {Q : DVK} : dVar 15 (a0 :: a1 :: a2 :: a3 :: a4 :: a5 :: a6 :: a7 :: a8 :: a9 :: a10 :: a11 :: a12 :: a13 :: a14 :: some x :: r) O Q = Q x O := rfl
theorem dgName_n15 {a0 : Option DV} {a1 : Option DV} {a2 : Option DV} {a3 : Option DV} {a4 : Option DV} {a5 : Option DV} {a6 : Option DV} {a7 : Option DV} {a8 : Option DV} {a9 : Option DV} {a10 : Option DV} {a11 : Option DV} {a12 : Option DV} {a13 : Option DV} {a14 : Option DV} {x : DV} {y : Option DV} {r : DSt} {O : Own} {Q : DSt → Own → Prop} : dgName 15 x (a0 :: a1 :: a2 :: a3 :: a4 :: a5 :: a6 :: a7 :: a8 :: a9 :: a10 :: a11 :: a12 :: a13 :: a14 :: y :: r) O Q = Q (a0 :: a1 :: a2 :: a3 :: a4 :: a5 :: a6 :: a7 :: a8 :: a9 :: a10 :: a11 :: a12 :: a13 :: a14 :: some x :: r) O := rfl
theorem obind_n15 {a0 : Option DV} {a1 : Option DV} {a2 : Option DV} {a3 : Option DV} {a4 : Option DV} {a5 : Option DV} {a6 : Option DV} {a7 : Option DV} {a8 : Option DV} {a9 : Option DV} {a10 : Option DV} {a11 : Option DV} {a12 : Option DV} {a13 : Option DV} {a14 : Option DV} {x : DV} {y : Option DV} {r : DSt} {K : DSt → Prop} : onSome (bind1 15 x (a0 :: a1 :: a2 :: a3 :: a4 :: a5 :: a6 :: a7 :: a8 :: a9 :: a10 :: a11 :: a12 :: a13 :: a14 :: y :: r)) K = K (a0 :: a1 :: a2 :: a3 :: a4 :: a5 :: a6 :: a7 :: a8 :: a9 :: a10 :: a11 :: a12 :: a13 :: a14 :: some x :: r) := rfl
theorem oslot_n15 {a0 : Option DV} {a1 : Option DV} {a2 : Option DV} {a3 : Option DV} {a4 : Option DV} {a5 : Option DV} {a6 : Option DV} {a7 : Option DV} {a8 : Option DV} {a9 : Option DV} {a10 : Option DV} {a11 : Option DV} {a12 : Option DV} {a13 : Option DV} {a14 : Option DV} {x : DV} {r : DSt} {K : DV → Prop} : onSome (slot (a0 :: a1 :: a2 :: a3 :: a4 :: a5 :: a6 :: a7 :: a8 :: a9 :: a10 :: a11 :: a12 :: a13 :: a14 :: some x :: r) 15) K = K x := rfl
theorem dVar_n16 {a0 : Option DV} {a1 : Option DV} {a2 : Option DV} {a3 : Option DV} {a4 : Option DV} {a5 : Option DV} {a6 : Option DV} {a7 : Option DV} {a8 : Option DV} {a9 : Option DV} {a10 : Option DV} {a11 : Option DV} {a12 : Option DV} {a13 : Option DV} {a14 : Option DV} {a15 : Option DV} {x : DV} {r : DSt} {O : Own} {Q : DVK} : dVar 16 (a0 :: a1 :: a2 :: a3 :: a4 :: a5 :: a6 :: a7 :: a8 :: a9 :: a10 :: a11 :: a12 :: a13 :: a14 :: a15 :: some x :: r) O Q = Q x O := rfl
theorem dgName_n16 {a0 : Option DV} {a1 : Option DV} {a2 : Option DV} {a3 : Option DV} {a4 : Option DV} {a5 : Option DV} {a6 : Option DV} {a7 : Option DV} {a8 : Option DV} {a9 : Option DV} {a10 : Option DV} {a11 : Option DV} {a12 : Option DV} {a13 : Option DV} {a14 : Option DV} {a15 : Option DV} {x : DV} {y : Option DV} {r : DSt} {O : Own} {Q : DSt → Own → Prop} : dgName 16 x (a0 :: a1 :: a2 :: a3 :: a4 :: a5 :: a6 :: a7 :: a8 :: a9 :: a10 :: a11 :: a12 :: a13 :: a14 :: a15 :: y :: r) O Q = Q (a0 :: a1 :: a2 :: a3 :: a4 :: a5 :: a6 :: a7 :: a8 :: a9 :: a10 :: a11 :: a12 :: a13 :: a14 :: a15 :: some x :: r) O := rfl
theorem obind_n16 {a0 : Option DV} {a1 : Option DV} {a2 : Option DV} {a3 : Option DV} {a4 : Option DV} {a5 : Option DV} {a6 : Option DV} {a7 : Option DV} {a8 : Option DV} {a9 : Option DV} {a10 : Option DV} {a11 : Option DV} {a12 : Option DV} {a13 : Option DV} {a14 : Option DV} {a15 : Option DV} {x : DV} {y : Option DV} {r : DSt} {K : DSt → Prop} : onSome (bind1 16 x (a0 :: a1 :: a2 :: a3 :: a4 :: a5 :: a6 :: a7 :: a8 :: a9 :: a10 :: a11 :: a12 :: a13 :: a14 :: a15 :: y :: r)) K = K (a0 :: a1 :: a2 :: a3 :: a4 :: a5 :: a6 :: a7 :: a8 :: a9 :: a10 :: a11 :: a12 :: a13 :: a14 :: a15 :: some x :: r) := rfl
theorem oslot_n16 {a0 : Option DV} {a1 : Option DV} {a2 : Option DV} {a3 : Option DV} {a4 : Option DV} {a5 : Option DV} {a6 : Option DV} {a7 : Option DV} {a8 : Option DV} {a9 : Option DV} {a10 : Option DV} {a11 : Option DV} {a12 : Option DV} {a13 : Option DV} {a14 : Option DV} {a15 : Option DV} {x : DV} {r : DSt} {K : DV → Prop} : onSome (slot (a0 :: a1 :: a2 :: a3 :: a4 :: a5 :: a6 :: a7 :: a8 :: a9 :: a10 :: a11 :: a12 :: a13 :: a14 :: a15 :: some x :: r) 16) K = K x := rfl
theorem dVar_n17 {a0 : Option DV} {a1 : Option DV} {a2 : Option DV} {a3 : Option DV} {a4 : Option DV} {a5 : Option DV} {a6 : Option DV} {a7 : Option DV} {a8 : Option DV} {a9 : Option DV} {a10 : Option DV} {a11 : Option DV} {a12 : Option DV} {a13 : Option DV} {a14 : Option DV} {a15 : Option DV} {a16 : Option DV} {x : DV} {r : DSt} {O : Own} {Q : DVK} : dVar 17 (a0 :: a1 :: a2 :: a3 :: a4 :: a5 :: a6 :: a7 :: a8 :: a9 :: a10 :: a11 :: a12 :: a13 :: a14 :: a15 :: a16 :: some x :: r) O Q = Q x O := rfl
theorem dgName_n17 {a0 : Option DV} {a1 : Option DV} {a2 : Option DV} {a3 : Option DV} {a4 : Option DV} {a5 : Option DV} {a6 : Option DV} {a7 : Option DV} {a8 : Option DV} {a9 : Option DV} {a10 : Option DV} {a11 : Option DV} {a12 : Option DV} {a13 : Option DV} {a14 : Option DV} {a15 : Option DV} {a16 : Option DV} {x : DV} {y : Option DV} {r : DSt} {O : Own} {Q : DSt → Own → Prop} : dgName 17 x (a0 :: a1 :: a2 :: a3 :: a4 :: a5 :: a6 :: a7 :: a8 :: a9 :: a10 :: a11 :: a12 :: a13 :: a14 :: a15 :: a16 :: y :: r) O Q = Q (a0 :: a1 :: a2 :: a3 :: a4 :: a5 :: a6 :: a7 :: a8 :: a9 :: a10 :: a11 :: a12 :: a13 :: a14 :: a15 :: a16 :: some x :: r) O := rfl
theorem obind_n17 {a0 : Option DV} {a1 : Option DV} {a2 : Option DV} {a3 : Option DV} {a4 : Option DV} {a5 : Option DV} {a6 : Option DV} {a7 : Option DV} {a8 : Option DV} {a9 : Option DV} {a10 : Option DV} {a11 : Option DV} {a12 : Option DV} {a13 : Option DV} {a14 : Option DV} {a15 : Option DV} {a16 : Option DV} {x : DV} {y : Option DV} {r : DSt} {K : DSt → Prop} : onSome (bind1 17 x (a0 :: a1 :: a2 :: a3 :: a4 :: a5 :: a6 :: a7 :: a8 :: a9 :: a10 :: a11 :: a12 :: a13 :: a14 :: a15 :: a16 :: y :: r)) K = K (a0 :: a1 :: a2 :: a3 :: a4 :: a5 :: a6 :: a7 :: a8 :: a9 :: a10 :: a11 :: a12 :: a13 :: a14 :: a15 :: a16 :: some x :: r) := rfl
theorem oslot_n17 {a0 : Option DV} {a1 : Option DV} {a2 : Option DV} {a3 : Option DV} {a4 : Option DV} {a5 : Option DV} {a6 : Option DV} {a7 : Option DV} {a8 : Option DV} {a9 : Option DV} {a10 : Option DV} {a11 : Option DV} {a12 : Option DV} {a13 : Option DV} {a14 : Option DV} {a15 : Option DV} {a16 : Option DV} {x : DV} {r : DSt} {K : DV → Prop} : onSome (slot (a0 :: a1 :: a2 :: a3 :: a4 :: a5 :: a6 :: a7 :: a8 :: a9 :: a10 :: a11 :: a12 :: a13 :: a14 :: a15 :: a16 :: some x :: r) 17) K = K x := rfl
theorem dVar_n18 {a0 : Option DV} {a1 : Option DV} {a2 : Option DV} {a3 : Option DV} {a4 : Option DV} {a5 : Option DV} {a6 : Option DV} {a7 : Option DV} {a8 : Option DV} {a9 : Option DV} {a10 : Option DV} {a11 : Option DV} {a12 : Option DV} {a13 : Option DV} {a14 : Option DV} {a15 : Option DV} {a16 : Option DV} {a17 : Option DV} {x : DV} {r : DSt} {O : Own} {Q : DVK} : dVar 18 (a0 :: a1 :: a2 :: a3 :: a4 :: a5 :: a6 :: a7 :: a8 :: a9 :: a10 :: a11 :: a12 :: a13 :: a14 :: a15 :: a16 :: a17 :: some x :: r) O Q = Q x O := rfl
theorem dgName_n18 {a0 : Option DV} {a1 : Option DV} {a2 : Option DV} {a3 : Option DV} {a4 : Option DV} {a5 : Option DV} {a6 : Option DV} {a7 : Option DV} {a8 : Option DV} {a9 : Option DV} {a10 : Option DV} {a11 : Option DV} {a12 : Option DV} {a13 : Option DV} {a14 : Option DV} {a15 : Option DV} {a16 : Option DV} {a17 : Option DV} {x : DV} {y : Option DV} {r : DSt} {O : Own} {Q : DSt → Own → Prop} : dgName 18 x (a0 :: a1 :: a2 :: a3 :: a4 :: a5 :: a6 :: a7 :: a8 :: a9 :: a10 :: a11 :: a12 :: a13 :: a14 :: a15 :: a16 :: a17 :: y :: r) O Q = Q (a0 :: a1 :: a2 :: a3 :: a4 :: a5 :: a6 :: a7 :: a8 :: a9 :: a10 :: a11 :: a12 :: a13 :: a14 :: a15 :: a16 :: a17 :: some x :: r) O := rfl
theorem obind_n18 {a0 : Option DV} {a1 : Option DV} {a2 : Option DV} {a3 : Option DV} {a4 : Option DV} {a5 : Option DV} {a6 : Option DV} {a7 : Option DV} {a8 : Option DV} {a9 : Option DV} {a10 : Option DV} {a11 : Option DV} {a12 : Option DV} {a13 : Option DV} {a14 : Option DV} {a15 : Option DV} {a16 : Option DV} {a17 : Option DV} {x : DV} {y : Option DV} {r : DSt} {K : DSt → Prop} : onSome (bind1 18 x (a0 :: a1 :: a2 :: a3 :: a4 :: a5 :: a6 :: a7 :: a8 :: a9 :: a10 :: a11 :: a12 :: a13 :: a14 :: a15 :: a16 :: a17 :: y :: r)) K = K (a0 :: a1 :: a2 :: a3 :: a4 :: a5 :: a6 :: a7 :: a8 :: a9 :: a10 :: a11 :: a12 :: a13 :: a14 :: a15 :: a16 :: a17 :: some x :: r) := rfl
theorem oslot_n18 {a0 : Option DV} {a1 : Option DV} {a2 : Option DV} {a3 : Option DV} {a4 : Option DV} {a5 : Option DV} {a6 : Option DV} {a7 : Option DV} {a8 : Option DV} {a9 : Option DV} {a10 : Option DV} {a11 : Option DV} {a12 : Option DV} {a13 : Option DV} {a14 : Option DV} {a15 : Option DV} {a16 : Option DV} {a17 : Option DV} {x : DV} {r : DSt} {K : DV → Prop} : onSome (slot (a0 :: a1 :: a2 :: a3 :: a4 :: a5 :: a6 :: a7 :: a8 :: a9 :: a10 :: a11 :: a12 :: a13 :: a14 :: a15 :: a16 :: a17 :: some x :: r) 18) K = K x := rfl
theorem dVar_n19 {a0 : Option DV} {a1 : Option DV} {a2 : Option DV} {a3 : Option DV} {a4 : Option DV} {a5 : Option DV} {a6 : Option DV} {a7 : Option DV} {a8 : Option DV} {a9 : Option DV} {a10 : Option DV} {a11 : Option DV} {a12 : Option DV} {a13 : Option DV} {a14 : Option DV} {a15 : Option DV} {a16 : Option DV} {a17 : Option DV} {a18 : Option DV} {x : DV} {r : DSt} {O : Own} {Q : DVK} : dVar 19 (a0 :: a1 :: a2 :: a3 :: a4 :: a5 :: a6 :: a7 :: a8 :: a9 :: a10 :: a11 :: a12 :: a13 :: a14 :: a15 :: a16 :: a17 :: a18 :: some x :: r) O Q = Q x O := rfl
theorem dgName_n19 {a0 : Option DV} {a1 : Option DV} {a2 : Option DV} {a3 : Option DV} {a4 : Option DV} {a5 : Option DV} {a6 : Option DV} {a7 : Option DV} {a8 : Option DV} {a9 : Option DV} {a10 : Option DV} {a11 : Option DV} {a12 : Option DV} {a13 : Option DV} {a14 : Option DV} {a15 : Option DV} {a16 : Option DV} {a17 : Option DV} {a18 : Option DV} {x : DV} {y : Option DV} {r : DSt} {O : Own} {Q : DSt → Own → Prop} : dgName 19 x (a0 :: a1 :: a2 :: a3 :: a4 :: a5 :: a6 :: a7 :: a8 :: a9 :: a10 :: a11 :: a12 :: a13 :: a14 :: a15 :: a16 :: a17 :: a18 :: y :: r) O Q = Q (a0 :: a1 :: a2 :: a3 :: a4 :: a5 :: a6 :: a7 :: a8 :: a9 :: a10 :: a11 :: a12 :: a13 :: a14 :: a15 :: a16 :: a17 :: a18 :: some x :: r) O := rfl
theorem obind_n19 {a0 : Option DV} {a1 : Option DV} {a2 : Option DV} {a3 : Option DV} {a4 : Option DV} {a5 : Option DV} {a6 : Option DV} {a7 : Option DV} {a8 : Option DV} {a9 : Option DV} {a10 : Option DV} {a11 : Option DV} {a12 : Option DV} {a13 : Option DV} {a14 : Option DV} {a15 : Option DV} {a16 : Option DV} {a17 : Option DV} {a18 : Option DV} {x : DV} {y : Option DV} {r : DSt} {K : DSt → Prop} : onSome (bind1 19 x (a0 :: a1 :: a2 :: a3 :: a4 :: a5 :: a6 :: a7 :: a8 :: a9 :: a10 :: a11 :: a12 :: a13 :: a14 :: a15 :: a16 :: a17 :: a18 :: y :: r)) K = K (a0 :: a1 :: a2 :: a3 :: a4 :: a5 :: a6 :: a7 :: a8 :: a9 :: a10 :: a11 :: a12 :: a13 :: a14 :: a15 :: a16 :: a17 :: a18 :: some x :: r) := rfl
theorem oslot_n19 {a0 : Option DV} {a1 : Option DV} {a2 : Option DV} {a3 : Option DV} {a4 : Option DV} {a5 : Option DV} {a6 : Option DV} {a7 : Option DV} {a8 : Option DV} {a9 : Option DV} {a10 : Option DV} {a11 : Option DV} {a12 : Option DV} {a13 : Option DV} {a14 : Option DV} {a15 : Option DV} {a16 : Option DV} {a17 : Option DV} {a18 : Option DV} {x : DV} {r : DSt} {K : DV → Prop} : onSome (slot (a0 :: a1 :: a2 :: a3 :: a4 :: a5 :: a6 :: a7 :: a8 :: a9 :: a10 :: a11 :: a12 :: a13 :: a14 :: a15 :: a16 :: a17 :: a18 :: some x :: r) 19) K = K x := rfl
theorem dVar_n20 {a0 : Option DV} {a1 : Option DV} {a2 : Option DV} {a3 : Option DV} {a4 : Option DV} {a5 : Option DV} {a6 : Option DV} {a7 : Option DV} {a8 : Option DV} {a9 : Option DV} {a10 : Option DV} {a11 : Option DV} {a12 : Option DV} {a13 : Option DV} {a14 : Option DV} {a15 : Option DV} {a16 : Option DV} {a17 : Option DV} {a18 : Option DV} {a19 : Option DV} {x : DV} {r : DSt} {O : Own} {Q : DVK} : dVar 20 (a0 :: a1 :: a2 :: a3 :: a4 :: a5 :: a6 :: a7 :: a8 :: a9 :: a10 :: a11 :: a12 :: a13 :: a14 :: a15 :: a16 :: a17 :: a18 :: a19 :: some x :: r) O Q = Q x O := rfl
theorem dgName_n20 {a0 : Option DV} {a1 : Option DV} {a2 : Option DV} {a3 : Option DV} {a4 : Option DV} {a5 : Option DV} {a6 : Option DV} {a7 : Option DV} {a8 : Option DV} {a9 : Option DV} {a10 : Option DV} {a11 : Option DV} {a12 : Option DV} {a13 : Option DV} {a14 : Option DV} {a15 : Option DV} {a16 : Option DV} {a17 : Option DV} {a18 : Option DV} {a19 : Option DV} {x : DV} {y : Option DV} {r : DSt} {O : Own} {Q : DSt → Own → Prop} : dgName 20 x (a0 :: a1 :: a2 :: a3 :: a4 :: a5 :: a6 :: a7 :: a8 :: a9 :: a10 :: a11 :: a12 :: a13 :: a14 :: a15 :: a16 :: a17 :: a18 :: a19 :: y :: r) O Q = Q (a0 :: a1 :: a2 :: a3 :: a4 :: a5 :: a6 :: a7 :: a8 :: a9 :: a10 :: a11 :: a12 :: a13 :: a14 :: a15 :: a16 :: a17 :: a18 :: a19 :: some x :: r) O := rfl
theorem obind_n20 {a0 : Option DV} {a1 : Option DV} {a2 : Option DV} {a3 : Option DV} {a4 : Option DV} {a5 : Option DV} {a6 : Option DV} {a7 : Option DV} {a8 : Option DV} {a9 : Option DV} {a10 : Option DV} {a11 : Option DV} {a12 : Option DV} {a13 : Option DV} {a14 : Option DV} {a15 : Option DV} {a16 : Option DV} {a17 : Option DV} {a18 : Option DV} {a19 : Option DV} {x : DV} {y : Option DV} {r : DSt} {K : DSt → Prop} : onSome (bind1 20 x (a0 :: a1 :: a2 :: a3 :: a4 :: a5 :: a6 :: a7 :: a8 :: a9 :: a10 :: a11 :: a12 :: a13 :: a14 :: a15 :: a16 :: a17 :: a18 :: a19 :: y :: r)) K = K (a0 :: a1 :: a2 :: a3 :: a4 :: a5 :: a6 :: a7 :: a8 :: a9 :: a10 :: a11 :: a12 :: a13 :: a14 :: a15 :: a16 :: a17 :: a18 :: a19 :: some x :: r) := rfl
theorem oslot_n20 {a0 : Option DV} {a1 : Option DV} {a2 : Option DV} {a3 : Option DV} {a4 : Option DV} {a5 : Option DV} {a6 : Option DV} {a7 : Option DV} {a8 : Option DV} {a9 : Option DV} {a10 : Option DV} {a11 : Option DV} {a12 : Option DV} {a13 : Option DV} {a14 : Option DV} {a15 : Option DV} {a16 : Option DV} {a17 : Option DV} {a18 : Option DV} {a19 : Option DV} {x : DV} {r : DSt} {K : DV → Prop} : onSome (slot (a0 :: a1 :: a2 :: a3 :: a4 :: a5 :: a6 :: a7 :: a8 :: a9 :: a10 :: a11 :: a12 :: a13 :: a14 :: a15 :: a16 :: a17 :: a18 :: a19 :: some x :: r) 20) K = K x := rfl
theorem dVar_n21 {a0 : Option DV} {a1 : Option DV} {a2 : Option DV} {a3 : Option DV} {a4 : Option DV} {a5 : Option DV} {a6 : Option DV} {a7 : Option DV} {a8 : Option DV} {a9 : Option DV} {a10 : Option DV} {a11 : Option DV} {a12 : Option DV} {a13 : Option DV} {a14 : Option DV} {a15 : Option DV} {a16 : Option DV} {a17 : Option DV} {a18 : Option DV} {a19 : Option DV} {a20 : Option DV} {x : DV} {r : DSt} {O : Own} {Q : DVK} : dVar 21 (a0 :: a1 :: a2 :: a3 :: a4 :: a5 :: a6 :: a7 :: a8 :: a9 :: a10 :: a11 :: a12 :: a13 :: a14 :: a15 :: a16 :: a17 :: a18 :: a19 :: a20 :: some x :: r) O Q = Q x O := rfl
theorem dgName_n21 {a0 : Option DV} {a1 : Option DV} {a2 : Option DV} {a3 : Option DV} {a4 : Option DV} {a5 : Option DV} {a6 : Option DV} {a7 : Option DV} {a8 : Option DV} {a9 : Option DV} {a10 : Option DV} {a11 : Option DV} {a12 : Option DV} {a13 : Option DV} {a14 : Option DV} {a15 : Option DV} {a16 : Option DV} {a17 : Option DV} {a18 : Option DV} {a19 : Option DV} {a20 : Option DV} {x : DV} {y : Option DV} {r : DSt} {O : Own} {Q : DSt → Own → Prop} : dgName 21 x (a0 :: a1 :: a2 :: a3 :: a4 :: a5 :: a6 :: a7 :: a8 :: a9 :: a10 :: a11 :: a12 :: a13 :: a14 :: a15 :: a16 :: a17 :: a18 :: a19 :: a20 :: y :: r) O Q = Q (a0 :: a1 :: a2 :: a3 :: a4 :: a5 :: a6 :: a7 :: a8 :: a9 :: a10 :: a11 :: a12 :: a13 :: a14 :: a15 :: a16 :: a17 :: a18 :: a19 :: a20 :: some x :: r) O := rfl
theorem obind_n21 {a0 : Option DV} {a1 : Option DV} {a2 : Option DV} {a3 : Option DV} {a4 : Option DV} {a5 : Option DV} {a6 : Option DV} {a7 : Option DV} {a8 : Option DV} {a9 : Option DV} {a10 : Option DV} {a11 : Option DV} {a12 : Option DV} {a13 : Option DV} {a14 : Option DV} {a15 : Option DV} {a16 : Option DV} {a17 : Option DV} {a18 : Option DV} {a19 : Option DV} {a20 : Option DV} {x : DV} {y : Option DV} {r : DSt} {K : DSt → Prop} : onSome (bind1 21 x (a0 :: a1 :: a2 :: a3 :: a4 :: a5 :: a6 :: a7 :: a8 :: a9 :: a10 :: a11 :: a12 :: a13 :: a14 :: a15 :: a16 :: a17 :: a18 :: a19 :: a20 :: y :: r)) K = K (a0 :: a1 :: a2 :: a3 :: a4 :: a5 :: a6 :: a7 :: a8 :: a9 :: a10 :: a11 :: a12 :: a13 :: a14 :: a15 :: a16 :: a17 :: a18 :: a19 :: a20 :: some x :: r) := rfl
theorem oslot_n21 {a0 : Option DV} {a1 : Option DV} {a2 : Option DV} {a3 : Option DV} {a4 : Option DV} {a5 : Option DV} {a6 : Option DV} {a7 : Option DV} {a8 : Option DV} {a9 : Option DV} {a10 : Option DV} {a11 : Option DV} {a12 : Option DV} {a13 : Option DV} {a14 : Option DV} {a15 : Option DV} {a16 : Option DV} {a17 : Option DV} {a18 : Option DV} {a19 : Option DV} {a20 : Option DV} {x : DV} {r : DSt} {K : DV → Prop} : onSome (slot (a0 :: a1 :: a2 :: a3 :: a4 :: a5 :: a6 :: a7 :: a8 :: a9 :: a10 :: a11 :: a12 :: a13 :: a14 :: a15 :: a16 :: a17 :: a18 :: a19 :: a20 :: some x :: r) 21) K = K x := rfl
theorem dVar_n22 {a0 : Option DV} {a1 : Option DV} {a2 : Option DV} {a3 : Option DV} {a4 : Option DV} {a5 : Option DV} {a6 : Option DV} {a7 : Option DV} {a8 : Option DV} {a9 : Option DV} {a10 : Option DV} {a11 : Option DV} {a12 : Option DV} {a13 : Option DV} {a14 : Option DV} {a15 : Option DV} {a16 : Option DV} {a17 : Option DV} {a18 : Option DV} {a19 : Option DV} {a20 : Option DV} {a21 : Option DV} {x : DV} {r : DSt} {O : Own} {Q : DVK} : dVar 22 (a0 :: a1 :: a2 :: a3 :: a4 :: a5 :: a6 :: a7 :: a8 :: a9 :: a10 :: a11 :: a12 :: a13 :: a14 :: a15 :: a16 :: a17 :: a18 :: a19 :: a20 :: a21 :: some x :: r) O Q = Q x O := rfl
theorem dgName_n22 {a0 : Option DV} {a1 : Option DV} {a2 : Option DV} {a3 : Option DV} {a4 : Option DV} {a5 : Option DV} {a6 : Option DV} {a7 : Option DV} {a8 : Option DV} {a9 : Option DV} {a10 : Option DV} {a11 : Option DV} {a12 : Option DV} {a13 : Option DV} {a14 : Option DV} {a15 : Option DV} {a16 : Option DV} {a17 : Option DV} {a18 : Option DV} {a19 : Option DV} {a20 : Option DV} {a21 : Option DV} {x : DV} {y : Option DV} {r : DSt} {O : Own} {Q : DSt → Own → Prop} : dgName 22 x (a0 :: a1 :: a2 :: a3 :: a4 :: a5 :: a6 :: a7 :: a8 :: a9 :: a10 :: a11 :: a12 :: a13 :: a14 :: a15 :: a16 :: a17 :: a18 :: a19 :: a20 :: a21 :: y :: r) O Q = Q (a0 :: a1 :: a2 :: a3 :: a4 :: a5 :: a6 :: a7 :: a8 :: a9 :: a10 :: a11 :: a12 :: a13 :: a14 :: a15 :: a16 :: a17 :: a18 :: a19 :: a20 :: a21 :: some x :: r) O := rfl
theorem obind_n22 {a0 : Option DV} {a1 : Option DV} {a2 : Option DV} {a3 : Option DV} {a4 : Option DV} {a5 : Option DV} {a6 : Option DV} {a7 : Option DV} {a8 : Option DV} {a9 : Option DV} {a10 : Option DV} {a11 : Option DV} {a12 : Option DV} {a13 : Option DV} {a14 : Option DV} {a15 : Option DV} {a16 : Option DV} {a17 : Option DV} {a18 : Option DV} {a19 : Option DV} {a20 : Option DV} {a21 : Option DV} {x : DV} {y : Option DV} {r : DSt} {K : DSt → Prop} : onSome (bind1 22 x (a0 :: a1 :: a2 :: a3 :: a4 :: a5 :: a6 :: a7 :: a8 :: a9 :: a10 :: a11 :: a12 :: a13 :: a14 :: a15 :: a16 :: a17 :: a18 :: a19 :: a20 :: a21 :: y :: r)) K = K (a0 :: a1 :: a2 :: a3 :: a4 :: a5 :: a6 :: a7 :: a8 :: a9 :: a10 :: a11 :: a12 :: a13 :: a14 :: a15 :: a16 :: a17 :: a18 :: a19 :: a20 :: a21 :: some x :: r) := rfl
theorem oslot_n22 {a0 : Option DV} {a1 : Option DV} {a2 : Option DV} {a3 : Option DV} {a4 : Option DV} {a5 : Option DV} {a6 : Option DV} {a7 : Option DV} {a8 : Option DV} {a9 : Option DV} {a10 : Option DV} {a11 : Option DV} {a12 : Option DV} {a13 : Option DV} {a14 : Option DV} {a15 : Option DV} {a16 : Option DV} {a17 : Option DV} {a18 : Option DV} {a19 : Option DV} {a20 : Option DV} {a21 : Option DV} {x : DV} {r : DSt} {K : DV → Prop} : onSome (slot (a0 :: a1 :: a2 :: a3 :: a4 :: a5 :: a6 :: a7 :: a8 :: a9 :: a10 :: a11 :: a12 :: a13 :: a14 :: a15 :: a16 :: a17 :: a18 :: a19 :: a20 :: a21 :: some x :: r) 22) K = K x := rfl
theorem dVar_n23 {a0 : Option DV} {a1 : Option DV} {a2 : Option DV} {a3 : Option DV} {a4 : Option DV} {a5 : Option DV} {a6 : Option DV} {a7 : Option DV} {a8 : Option DV} {a9 : Option DV} {a10 : Option DV} {a11 : Option DV} {a12 : Option DV} {a13 : Option DV} {a14 : Option DV} {a15 : Option DV} {a16 : Option DV} {a17 : Option DV} {a18 : Option DV} {a19 : Option DV} {a20 : Option DV} {a21 : Option DV} {a22 : Option DV} {x : DV} {r : DSt} {O : Own} {Q : DVK} : dVar 23 (a0 :: a1 :: a2 :: a3 :: a4 :: a5 :: a6 :: a7 :: a8 :: a9 :: a10 :: a11 :: a12 :: a13 :: a14 :: a15 :: a16 :: a17 :: a18 :: a19 :: a20 :: a21 :: a22 :: some x :: r) O Q = Q x O := rfl
theorem dgName_n23 {a0 : Option DV} {a1 : Option DV} {a2 : Option DV} {a3 : Option DV} {a4 : Option DV} {a5 : Option DV} {a6 : Option DV} {a7 : Option DV} {a8 : Option DV} {a9 : Option DV} {a10 : Option DV} {a11 : Option DV} {a12 : Option DV} {a13 : Option DV} {a14 : Option DV} {a15 : Option DV} {a16 : Option DV} {a17 : Option DV} {a18 : Option DV} {a19 : Option DV} {a20 : Option DV} {a21 : Option DV} {a22 : Option DV} {x : DV} {y : Option DV} {r : DSt} {O : Own} {Q : DSt → Own → Prop} : dgName 23 x (a0 :: a1 :: a2 :: a3 :: a4 :: a5 :: a6 :: a7 :: a8 :: a9 :: a10 :: a11 :: a12 :: a13 :: a14 :: a15 :: a16 :: a17 :: a18 :: a19 :: a20 :: a21 :: a22 :: y :: r) O Q = Q (a0 :: a1 :: a2 :: a3 :: a4 :: a5 :: a6 :: a7 :: a8 :: a9 :: a10 :: a11 :: a12 :: a13 :: a14 :: a15 :: a16 :: a17 :: a18 :: a19 :: a20 :: a21 :: a22 :: some x :: r) O := rfl
theorem obind_n23 {a0 : Option DV} {a1 : Option DV} {a2 : Option DV} {a3 : Option DV} {a4 : Option DV} {a5 : Option DV} {a6 : Option DV} {a7 : Option DV} {a8 : Option DV} {a9 : Option DV} {a10 : Option DV} {a11 : Option DV} {a12 : Option DV} {a13 : Option DV} {a14 : Option DV} {a15 : Option DV} {a16 : Option DV} {a17 : Option DV} {a18 : Option DV} {a19 : Option DV} {a20 : Option DV} {a21 : Option DV} {a22 : Option DV} {x : DV} {y : Option DV} {r : DSt} {K : DSt → Prop} : onSome (bind1 23 x (a0 :: a1 :: a2 :: a3 :: a4 :: a5 :: a6 :: a7 :: a8 :: a9 :: a10 :: a11 :: a12 :: a13 :: a14 :: a15 :: a16 :: a17 :: a18 :: a19 :: a20 :: a21 :: a22 :: y :: r)) K = K (a0 :: a1 :: a2 :: a3 :: a4 :: a5 :: a6 :: a7 :: a8 :: a9 :: a10 :: a11 :: a12 :: a13 :: a14 :: a15 :: a16 :: a17 :: a18 :: a19 :: a20 :: a21 :: a22 :: some x :: r) := rfl
theorem oslot_n23 {a0 : Option DV} {a1 : Option DV} {a2 : Option DV} {a3 : Option DV} {a4 : Option DV} {a5 : Option DV} {a6 : Option DV} {a7 : Option DV} {a8 : Option DV} {a9 : Option DV} {a10 : Option DV} {a11 : Option DV} {a12 : Option DV} {a13 : Option DV} {a14 : Option DV} {a15 : Option DV} {a16 : Option DV} {a17 : Option DV} {a18 : Option DV} {a19 : Option DV} {a20 : Option DV} {a21 : Option DV} {a22 : Option DV} {x : DV} {r : DSt} {K : DV → Prop} : onSome (slot (a0 :: a1 :: a2 :: a3 :: a4 :: a5 :: a6 :: a7 :: a8 :: a9 :: a10 :: a11 :: a12 :: a13 :: a14 :: a15 :: a16 :: a17 :: a18 :: a19 :: a20 :: a21 :: a22 :: some x :: r) 23) K = K x := rfl
theorem dVar_n24 {a0 : Option DV} {a1 : Option DV} {a2 : Option DV} {a3 : Option DV} {a4 : Option DV} {a5 : Option DV} {a6 : Option DV} {a7 : Option DV} {a8 : Option DV} {a9 : Option DV} {a10 : Option DV} {a11 : Option DV} {a12 : Option DV} {a13 : Option DV} {a14 : Option DV} {a15 : Option DV} {a16 : Option DV} {a17 : Option DV} {a18 : Option DV} {a19 : Option DV} {a20 : Option DV} {a21 : Option DV} {a22 : Option DV} {a23 : Option DV} {x : DV} {r : DSt} {O : Own} {Q : DVK} : dVar 24 (a0 :: a1 :: a2 :: a3 :: a4 :: a5 :: a6 :: a7 :: a8 :: a9 :: a10 :: a11 :: a12 :: a13 :: a14 :: a15 :: a16 :: a17 :: a18 :: a19 :: a20 :: a21 :: a22 :: a23 :: some x :: r) O Q = Q x O := rfl
theorem dgName_n24 {a0 : Option DV} {a1 : Option DV} {a2 : Option DV} {a3 : Option DV} {a4 : Option DV} {a5 : Option DV} {a6 : Option DV} {a7 : Option DV} {a8 : Option DV} {a9 : Option DV} {a10 : Option DV} {a11 : Option DV} {a12 : Option DV} {a13 : Option DV} {a14 : Option DV} {a15 : Option DV} {a16 : Option DV} {a17 : Option DV} {a18 : Option DV} {a19 : Option DV} {a20 : Option DV} {a21 : Option DV} {a22 : Option DV} {a23 : Option DV} {x : DV} {y : Option DV} {r : DSt} {O : Own} {Q : DSt → Own → Prop} : dgName 24 x (a0 :: a1 :: a2 :: a3 :: a4 :: a5 :: a6 :: a7 :: a8 :: a9 :: a10 :: a11 :: a12 :: a13 :: a14 :: a15 :: a16 :: a17 :: a18 :: a19 :: a20 :: a21 :: a22 :: a23 :: y :: r) O Q = Q (a0 :: a1 :: a2 :: a3 :: a4 :: a5 :: a6 :: a7 :: a8 :: a9 :: a10 :: a11 :: a12 :: a13 :: a14 :: a15 :: a16 :: a17 :: a18 :: a19 :: a20 :: a21 :: a22 :: a23 :: some x :: r) O := rfl
theorem obind_n24 {a0 : Option DV} {a1 : Option DV} {a2 : Option DV} {a3 : Option DV} {a4 : Option DV} {a5 : Option DV} {a6 : Option DV} {a7 : Option DV} {a8 : Option DV} {a9 : Option DV} {a10 : Option DV} {a11 : Option DV} {a12 : Option DV} {a13 : Option DV} {a14 : Option DV} {a15 : Option DV} {a16 : Option DV} {a17 : Option DV} {a18 : Option DV} {a19 : Option DV} {a20 : Option DV} {a21 : Option DV} {a22 : Option DV} {a23 : Option DV} {x : DV} {y : Option DV} {r : DSt} {K : DSt → Prop} : onSome (bind1 24 x (a0 :: a1 :: a2 :: a3 :: a4 :: a5 :: a6 :: a7 :: a8 :: a9 :: a10 :: a11 :: a12 :: a13 :: a14 :: a15 :: a16 :: a17 :: a18 :: a19 :: a20 :: a21 :: a22 :: a23 :: y :: r)) K = K (a0 :: a1 :: a2 :: a3 :: a4 :: a5 :: a6 :: a7 :: a8 :: a9 :: a10 :: a11 :: a12 :: a13 :: a14 :: a15 :: a16 :: a17 :: a18 :: a19 :: a20 :: a21 :: a22 :: a23 :: some x :: r) := rfl
theorem oslot_n24 {a0 : Option DV} {a1 : Option DV} {a2 : Option DV} {a3 : Option DV} {a4 : Option DV} {a5 : Option DV} {a6 : Option DV} {a7 : Option DV} {a8 : Option DV} {a9 : Option DV} {a10 : Option DV} {a11 : Option DV} {a12 : Option DV} {a13 : Option DV} {a14 : Option DV} {a15 : Option DV} {a16 : Option DV} {a17 : Option DV} {a18 : Option DV} {a19 : Option DV} {a20 : Option DV} {a21 : Option DV} {a22 : Option DV} {a23 : Option DV} {x : DV} {r : DSt} {K : DV → Prop} : onSome (slot (a0 :: a1 :: a2 :: a3 :: a4 :: a5 :: a6 :: a7 :: a8 :: a9 :: a10 :: a11 :: a12 :: a13 :: a14 :: a15 :: a16 :: a17 :: a18 :: a19 :: a20 :: a21 :: a22 :: a23 :: some x :: r) 24) K = K x := rfl
theorem dVar_n25 {a0 : Option DV} {a1 : Option DV} {a2 : Option DV} {a3 : Option DV} {a4 : Option DV} {a5 : Option DV} {a6 : Option DV} {a7 : Option DV} {a8 : Option DV} {a9 : Option DV} {a10 : Option DV} {a11 : Option DV} {a12 : Option DV} {a13 : Option DV} {a14 : Option DV} {a15 : Option DV} {a16 : Option DV} {a17 : Option DV} {a18 : Option DV} {a19 : Option DV} {a20 : Option DV} {a21 : Option DV} {a22 : Option DV} {a23 : Option DV} {a24 : Option DV} {x : DV} {r : DSt} {O : Own} {Q : DVK} : dVar 25 (a0 :: a1 :: a2 :: a3 :: a4 :: a5 :: a6 :: a7 :: a8 :: a9 :: a10 :: a11 :: a12 :: a13 :: a14 :: a15 :: a16 :: a17 :: a18 :: a19 :: a20 :: a21 :: a22 :: a23 :: a24 :: some x :: r) O Q = Q x O := rfl
theorem dgName_n25 {a0 : Option DV} {a1 : Option DV} {a2 : Option DV} {a3 : Option DV} {a4 : Option DV} {a5 : Option DV} {a6 : Option DV} {a7 : Option DV} {a8 : Option DV} {a9 : Option DV} {a10 : Option DV} {a11 : Option DV} {a12 : Option DV} {a13 : Option DV} {a14 : Option DV} {a15 : Option DV} {a16 : Option DV} {a17 : Option DV} {a18 : Option DV} {a19 : Option DV} {a20 : Option DV} {a21 : Option DV} {a22 : Option DV} {a23 : Option DV} {a24 : Option DV} {x : DV} {y : Option DV} {r : DSt} {O : Own} {Q : DSt → Own → Prop} : dgName 25 x (a0 :: a1 :: a2 :: a3 :: a4 :: a5 :: a6 :: a7 :: a8 :: a9 :: a10 :: a11 :: a12 :: a13 :: a14 :: a15 :: a16 :: a17 :: a18 :: a19 :: a20 :: a21 :: a22 :: a23 :: a24 :: y :: r) O Q = Q (a0 :: a1 :: a2 :: a3 :: a4 :: a5 :: a6 :: a7 :: a8 :: a9 :: a10 :: a11 :: a12 :: a13 :: a14 :: a15 :: a16 :: a17 :: a18 :: a19 :: a20 :: a21 :: a22 :: a23 :: a24 :: some x :: r) O := rfl
theorem obind_n25 {a0 : Option DV} {a1 : Option DV} {a2 : Option DV} {a3 : Option DV} {a4 : Option DV} {a5 : Option DV} {a6 : Option DV} {a7 : Option DV} {a8 : Option DV} {a9 : Option DV} {a10 : Option DV} {a11 : Option DV} {a12 : Option DV} {a13 : Option DV} {a14 : Option DV} {a15 : Option DV} {a16 : Option DV} {a17 : Option DV} {a18 : Option DV} {a19 : Option DV} {a20 : Option DV} {a21 : Option DV} {a22 : Option DV} {a23 : Option DV} {a24 : Option DV} {x : DV} {y : Option DV} {r : DSt} {K : DSt → Prop} : onSome (bind1 25 x (a0 :: a1 :: a2 :: a3 :: a4 :: a5 :: a6 :: a7 :: a8 :: a9 :: a10 :: a11 :: a12 :: a13 :: a14 :: a15 :: a16 :: a17 :: a18 :: a19 :: a20 :: a21 :: a22 :: a23 :: a24 :: y :: r)) K = K (a0 :: a1 :: a2 :: a3 :: a4 :: a5 :: a6 :: a7 :: a8 :: a9 :: a10 :: a11 :: a12 :: a13 :: a14 :: a15 :: a16 :: a17 :: a18 :: a19 :: a20 :: a21 :: a22 :: a23 :: a24 :: some x :: r) := rfl
theorem oslot_n25 {a0 : Option DV} {a1 : Option DV} {a2 : Option DV} {a3 : Option DV} {a4 : Option DV} {a5 : Option DV} {a6 : Option DV} {a7 : Option DV} {a8 : Option DV} {a9 : Option DV} {a10 : Option DV} {a11 : Option DV} {a12 : Option DV} {a13 : Option DV} {a14 : Option DV} {a15 : Option DV} {a16 : Option DV} {a17 : Option DV} {a18 : Option DV} {a19 : Option DV} {a20 : Option DV} {a21 : Option DV} {a22 : Option DV} {a23 : Option DV} {a24 : Option DV} {x : DV} {r : DSt} {K : DV → Prop} : onSome (slot (a0 :: a1 :: a2 :: a3 :: a4 :: a5 :: a6 :: a7 :: a8 :: a9 :: a10 :: a11 :: a12 :: a13 :: a14 :: a15 :: a16 :: a17 :: a18 :: a19 :: a20 :: a21 :: a22 :: a23 :: a24 :: some x :: r) 25) K = K x := rfl
theorem dVar_n26 {a0 : Option DV} {a1 : Option DV} {a2 : Option DV} {a3 : Option DV} {a4 : Option DV} {a5 : Option DV} {a6 : Option DV} {a7 : Option DV} {a8 : Option DV} {a9 : Option DV} {a10 : Option DV} {a11 : Option DV} {a12 : Option DV} {a13 : Option DV} {a14 : Option DV} {a15 : Option DV} {a16 : Option DV} {a17 : Option DV} {a18 : Option DV} {a19 : Option DV} {a20 : Option DV} {a21 : Option DV} {a22 : Option DV} {a23 : Option DV} {a24 : Option DV} {a25 : Option DV} {x : DV} {r : DSt} {O : Own} {Q : DVK} : dVar 26 (a0 :: a1 :: a2 :: a3 :: a4 :: a5 :: a6 :: a7 :: a8 :: a9 :: a10 :: a11 :: a12 :: a13 :: a14 :: a15 :: a16 :: a17 :: a18 :: a19 :: a20 :: a21 :: a22 :: a23 :: a24 :: a25 :: some x :: r) O Q = Q x O := rfl
theorem dgName_n26 {a0 : Option DV} {a1 : Option DV} {a2 : Option DV} {a3 : Option DV} {a4 : Option DV} {a5 : Option DV} {a6 : Option DV} {a7 : Option DV} {a8 : Option DV} {a9 : Option DV} {a10 : Option DV} {a11 : Option DV} {a12 : Option DV} {a13 : Option DV} {a14 : Option DV} {a15 : Option DV} {a16 : Option DV} {a17 : Option DV} {a18 : Option DV} {a19 : Option DV} {a20 : Option DV} {a21 : Option DV} {a22 : Option DV} {a23 : Option DV} {a24 : Option DV} {a25 : Option DV} {x : DV} {y : Option DV} {r : DSt} {O : Own} {Q : DSt → Own → Prop} : dgName 26 x (a0 :: a1 :: a2 :: a3 :: a4 :: a5 :: a6 :: a7 :: a8 :: a9 :: a10 :: a11 :: a12 :: a13 :: a14 :: a15 :: a16 :: a17 :: a18 :: a19 :: a20 :: a21 :: a22 :: a23 :: a24 :: a25 :: y :: r) O Q = Q (a0 :: a1 :: a2 :: a3 :: a4 :: a5 :: a6 :: a7 :: a8 :: a9 :: a10 :: a11 :: a12 :: a13 :: a14 :: a15 :: a16 :: a17 :: a18 :: a19 :: a20 :: a21 :: a22 :: a23 :: a24 :: a25 :: some x :: r) O := rfl
theorem obind_n26 {a0 : Option DV} {a1 : Option DV} {a2 : Option DV} {a3 : Option DV} {a4 : Option DV} {a5 : Option DV} {a6 : Option DV} {a7 : Option DV} {a8 : Option DV} {a9 : Option DV} {a10 : Option DV} {a11 : Option DV} {a12 : Option DV} {a13 : Option DV} {a14 : Option DV} {a15 : Option DV} {a16 : Option DV} {a17 : Option DV} {a18 : Option DV} {a19 : Option DV} {a20 : Option DV} {a21 : Option DV} {a22 : Option DV} {a23 : Option DV} {a24 : Option DV} {a25 : Option DV} {x : DV} {y : Option DV} {r : DSt} {K : DSt → Prop} : onSome (bind1 26 x (a0 :: a1 :: a2 :: a3 :: a4 :: a5 :: a6 :: a7 :: a8 :: a9 :: a10 :: a11 :: a12 :: a13 :: a14 :: a15 :: a16 :: a17 :: a18 :: a19 :: a20 :: a21 :: a22 :: a23 :: a24 :: a25 :: y :: r)) K = K (a0 :: a1 :: a2 :: a3 :: a4 :: a5 :: a6 :: a7 :: a8 :: a9 :: a10 :: a11 :: a12 :: a13 :: a14 :: a15 :: a16 :: a17 :: a18 :: a19 :: a20 :: a21 :: a22 :: a23 :: a24 :: a25 :: some x :: r) := rfl
theorem oslot_n26 {a0 : Option DV} {a1 : Option DV} {a2 : Option DV} {a3 : Option DV} {a4 : Option DV} {a5 : Option DV} {a6 : Option DV} {a7 : Option DV} {a8 : Option DV} {a9 : Option DV} {a10 : Option DV} {a11 : Option DV} {a12 : Option DV} {a13 : Option DV} {a14 : Option DV} {a15 : Option DV} {a16 : Option DV} {a17 : Option DV} {a18 : Option DV} {a19 : Option DV} {a20 : Option DV} {a21 : Option DV} {a22 : Option DV} {a23 : Option DV} {a24 : Option DV} {a25 : Option DV} {x : DV} {r : DSt} {K : DV → Prop} : onSome (slot (a0 :: a1 :: a2 :: a3 :: a4 :: a5 :: a6 :: a7 :: a8 :: a9 :: a10 :: a11 :: a12 :: a13 :: a14 :: a15 :: a16 :: a17 :: a18 :: a19 :: a20 :: a21 :: a22 :: a23 :: a24 :: a25 :: some x :: r) 26) K = K x := rfl
theorem dVar_n27 {a0 : Option DV} {a1 : Option DV} {a2 : Option DV} {a3 : Option DV} {a4 : Option DV} {a5 : Option DV} {a6 : Option DV} {a7 : Option DV} {a8 : Option DV} {a9 : Option DV} {a10 : Option DV} {a11 : Option DV} {a12 : Option DV} {a13 : Option DV} {a14 : Option DV} {a15 : Option DV} {a16 : Option DV} {a17 : Option DV} {a18 : Option DV} {a19 : Option DV} {a20 : Option DV} {a21 : Option DV} {a22 : Option DV} {a23 : Option DV} {a24 : Option DV} {a25 : Option DV} {a26 : Option DV} {x : DV} {r : DSt} {O : Own} {Q : DVK} : dVar 27 (a0 :: a1 :: a2 :: a3 :: a4 :: a5 :: a6 :: a7 :: a8 :: a9 :: a10 :: a11 :: a12 :: a13 :: a14 :: a15 :: a16 :: a17 :: a18 :: a19 :: a20 :: a21 :: a22 :: a23 :: a24 :: a25 :: a26 :: some x :: r) O Q = Q x O := rfl
theorem dgName_n27 {a0 : Option DV} {a1 : Option DV} {a2 : Option DV} {a3 : Option DV} {a4 : Option DV} {a5 : Option DV} {a6 : Option DV} {a7 : Option DV} {a8 : Option DV} {a9 : Option DV} {a10 : Option DV} {a11 : Option DV} {a12 : Option DV} {a13 : Option DV} {a14 : Option DV} {a15 : Option DV} {a16 : Option DV} {a17 : Option DV} {a18 : Option DV} {a19 : Option DV} {a20 : Option DV} {a21 : Option DV} {a22 : Option DV} {a23 : Option DV} {a24 : Option DV} {a25 : Option DV} {a26 : Option DV} {x : DV} {y : Option DV} {r : DSt} {O : Own} {Q : DSt → Own → Prop} : dgName 27 x (a0 :: a1 :: a2 :: a3 :: a4 :: a5 :: a6 :: a7 :: a8 :: a9 :: a10 :: a11 :: a12 :: a13 :: a14 :: a15 :: a16 :: a17 :: a18 :: a19 :: a20 :: a21 :: a22 :: a23 :: a24 :: a25 :: a26 :: y :: r) O Q = Q (a0 :: a1 :: a2 :: a3 :: a4 :: a5 :: a6 :: a7 :: a8 :: a9 :: a10 :: a11 :: a12 :: a13 :: a14 :: a15 :: a16 :: a17 :: a18 :: a19 :: a20 :: a21 :: a22 :: a23 :: a24 :: a25 :: a26 :: some x :: r) O := rfl
theorem obind_n27 {a0 : Option DV} {a1 : Option DV} {a2 : Option DV} {a3 : Option DV} {a4 : Option DV} {a5 : Option DV} {a6 : Option DV} {a7 : Option DV} {a8 : Option DV} {a9 : Option DV} {a10 : Option DV} {a11 : Option DV} {a12 : Option DV} {a13 : Option DV} {a14 : Option DV} {a15 : Option DV} {a16 : Option DV} {a17 : Option DV} {a18 : Option DV} {a19 : Option DV} {a20 : Option DV} {a21 : Option DV} {a22 : Option DV} {a23 : Option DV} {a24 : Option DV} {a25 : Option DV} {a26 : Option DV} {x : DV} {y : Option DV} {r : DSt} {K : DSt → Prop} : onSome (bind1 27 x (a0 :: a1 :: a2 :: a3 :: a4 :: a5 :: a6 :: a7 :: a8 :: a9 :: a10 :: a11 :: a12 :: a13 :: a14 :: a15 :: a16 :: a17 :: a18 :: a19 :: a20 :: a21 :: a22 :: a23 :: a24 :: a25 :: a26 :: y :: r)) K = K (a0 :: a1 :: a2 :: a3 :: a4 :: a5 :: a6 :: a7 :: a8 :: a9 :: a10 :: a11 :: a12 :: a13 :: a14 :: a15 :: a16 :: a17 :: a18 :: a19 :: a20 :: a21 :: a22 :: a23 :: a24 :: a25 :: a26 :: some x :: r) := rfl
theorem oslot_n27 {a0 : Option DV} {a1 : Option DV} {a2 : Option DV} {a3 : Option DV} {a4 : Option DV} {a5 : Option DV} {a6 : Option DV} {a7 : Option DV} {a8 : Option DV} {a9 : Option DV} {a10 : Option DV} {a11 : Option DV} {a12 : Option DV} {a13 : Option DV} {a14 : Option DV} {a15 : Option DV} {a16 : Option DV} {a17 : Option DV} {a18 : Option DV} {a19 : Option DV} {a20 : Option DV} {a21 : Option DV} {a22 : Option DV} {a23 : Option DV} {a24 : Option DV} {a25 : Option DV} {a26 : Option DV} {x : DV} {r : DSt} {K : DV → Prop} : onSome (slot (a0 :: a1 :: a2 :: a3 :: a4 :: a5 :: a6 :: a7 :: a8 :: a9 :: a10 :: a11 :: a12 :: a13 :: a14 :: a15 :: a16 :: a17 :: a18 :: a19 :: a20 :: a21 :: a22 :: a23 :: a24 :: a25 :: a26 :: some x :: r) 27) K = K x := rfl
theorem dVar_n28 {a0 : Option DV} {a1 : Option DV} {a2 : Option DV} {a3 : Option DV} {a4 : Option DV} {a5 : Option DV} {a6 : Option DV} {a7 : Option DV} {a8 : Option DV} {a9 : Option DV} {a10 : Option DV} {a11 : Option DV} {a12 : Option DV} {a13 : Option DV} {a14 : Option DV} {a15 : Option DV} {a16 : Option DV} {a17 : Option DV} {a18 : Option DV} {a19 : Option DV} {a20 : Option DV} {a21 : Option DV} {a22 : Option DV} {a23 : Option DV} {a24 : Option DV} {a25 : Option DV} {a26 : Option DV} {a27 : Option DV} {x : DV} {r : DSt} {O : Own} {Q : DVK} : dVar 28 (a0 :: a1 :: a2 :: a3 :: a4 :: a5 :: a6 :: a7 :: a8 :: a9 :: a10 :: a11 :: a12 :: a13 :: a14 :: a15 :: a16 :: a17 :: a18 :: a19 :: a20 :: a21 :: a22 :: a23 :: a24 :: a25 :: a26 :: a27 :: some x :: r) O Q = Q x O := rfl
theorem dgName_n28 {a0 : Option DV} {a1 : Option DV} {a2 : Option DV} {a3 : Option DV} {a4 : Option DV} {a5 : Option DV} {a6 : Option DV} {a7 : Option DV} {a8 : Option DV} {a9 : Option DV} {a10 : Option DV} {a11 : Option DV} {a12 : Option DV} {a13 : Option DV} {a14 : Option DV} {a15 : Option DV} {a16 : Option DV} {a17 : Option DV} {a18 : Option DV} {a19 : Option DV} {a20 : Option DV} {a21 : Option DV} {a22 : Option DV} {a23 : Option DV} {a24 : Option DV} {a25 : Option DV} {a26 : Option DV} {a27 : Option DV} {x : DV} {y : Option DV} {r : DSt} {O : Own} {Q : DSt → Own → Prop} : dgName 28 x (a0 :: a1 :: a2 :: a3 :: a4 :: a5 :: a6 :: a7 :: a8 :: a9 :: a10 :: a11 :: a12 :: a13 :: a14 :: a15 :: a16 :: a17 :: a18 :: a19 :: a20 :: a21 :: a22 :: a23 :: a24 :: a25 :: a26 :: a27 :: y :: r) O Q = Q (a0 :: a1 :: a2 :: a3 :: a4 :: a5 :: a6 :: a7 :: a8 :: a9 :: a10 :: a11 :: a12 :: a13 :: a14 :: a15 :: a16 :: a17 :: a18 :: a19 :: a20 :: a21 :: a22 :: a23 :: a24 :: a25 :: a26 :: a27 :: some x :: r) O := rfl
theorem obind_n28 {a0 : Option DV} {a1 : Option DV} {a2 : Option DV} {a3 : Option DV} {a4 : Option DV} {a5 : Option DV} {a6 : Option DV} {a7 : Option DV} {a8 : Option DV} {a9 : Option DV} {a10 : Option DV} {a11 : Option DV} {a12 : Option DV} {a13 : Option DV} {a14 : Option DV} {a15 : Option DV} {a16 : Option DV} {a17 : Option DV} {a18 : Option DV} {a19 : Option DV} {a20 : Option DV} {a21 : Option DV} {a22 : Option DV} {a23 : Option DV} {a24 : Option DV} {a25 : Option DV} {a26 : Option DV} {a27 : Option DV} {x : DV} {y : Option DV} {r : DSt} {K : DSt → Prop} : onSome (bind1 28 x (a0 :: a1 :: a2 :: a3 :: a4 :: a5 :: a6 :: a7 :: a8 :: a9 :: a10 :: a11 :: a12 :: a13 :: a14 :: a15 :: a16 :: a17 :: a18 :: a19 :: a20 :: a21 :: a22 :: a23 :: a24 :: a25 :: a26 :: a27 :: y :: r)) K = K (a0 :: a1 :: a2 :: a3 :: a4 :: a5 :: a6 :: a7 :: a8 :: a9 :: a10 :: a11 :: a12 :: a13 :: a14 :: a15 :: a16 :: a17 :: a18 :: a19 :: a20 :: a21 :: a22 :: a23 :: a24 :: a25 :: a26 :: a27 :: some x :: r) := rfl
theorem oslot_n28 {a0 : Option DV} {a1 : Option DV} {a2 : Option DV} {a3 : Option DV} {a4 : Option DV} {a5 : Option DV} {a6 : Option DV} {a7 : Option DV} {a8 : Option DV} {a9 : Option DV} {a10 : Option DV} {a11 : Option DV} {a12 : Option DV} {a13 : Option DV} {a14 : Option DV} {a15 : Option DV} {a16 : Option DV} {a17 : Option DV} {a18 : Option DV} {a19 : Option DV} {a20 : Option DV} {a21 : Option DV} {a22 : Option DV} {a23 : Option DV} {a24 : Option DV} {a25 : Option DV} {a26 : Option DV} {a27 : Option DV} {x : DV} {r : DSt} {K : DV → Prop} : onSome (slot (a0 :: a1 :: a2 :: a3 :: a4 :: a5 :: a6 :: a7 :: a8 :: a9 :: a10 :: a11 :: a12 :: a13 :: a14 :: a15 :: a16 :: a17 :: a18 :: a19 :: a20 :: a21 :: a22 :: a23 :: a24 :: a25 :: a26 :: a27 :: some x :: r) 28) K = K x := rfl
theorem dVar_n29 {a0 : Option DV} {a1 : Option DV} {a2 : Option DV} {a3 : Option DV} {a4 : Option DV} {a5 : Option DV} {a6 : Option DV} {a7 : Option DV} {a8 : Option DV} {a9 : Option DV} {a10 : Option DV} {a11 : Option DV} {a12 : Option DV} {a13 : Option DV} {a14 : Option DV} {a15 : Option DV} {a16 : Option DV} {a17 : Option DV} {a18 : Option DV} {a19 : Option DV} {a20 : Option DV} {a21 : Option DV} {a22 : Option DV} {a23 : Option DV} {a24 : Option DV} {a25 : Option DV} {a26 : Option DV} {a27 : Option DV} {a28 : Option DV} {x : DV} {r : DSt} {O : Own} {Q : DVK} : dVar 29 (a0 :: a1 :: a2 :: a3 :: a4 :: a5 :: a6 :: a7 :: a8 :: a9 :: a10 :: a11 :: a12 :: a13 :: a14 :: a15 :: a16 :: a17 :: a18 :: a19 :: a20 :: a21 :: a22 :: a23 :: a24 :: a25 :: a26 :: a27 :: a28 :: some x :: r) O Q = Q x O := rfl
theorem dgName_n29 {a0 : Option DV} {a1 : Option DV} {a2 : Option DV} {a3 : Option DV} {a4 : Option DV} {a5 : Option DV} {a6 : Option DV} {a7 : Option DV} {a8 : Option DV} {a9 : Option DV} {a10 : Option DV} {a11 : Option DV} {a12 : Option DV} {a13 : Option DV} {a14 : Option DV} {a15 : Option DV} {a16 : Option DV} {a17 : Option DV} {a18 : Option DV} {a19 : Option DV} {a20 : Option DV} {a21 : Option DV} {a22 : Option DV} {a23 : Option DV} {a24 : Option DV} {a25 : Option DV} {a26 : Option DV} {a27 : Option DV} {a28 : Option DV} {x : DV} {y : Option DV} {r : DSt} {O : Own} {Q : DSt → Own → Prop} : dgName 29 x (a0 :: a1 :: a2 :: a3 :: a4 :: a5 :: a6 :: a7 :: a8 :: a9 :: a10 :: a11 :: a12 :: a13 :: a14 :: a15 :: a16 :: a17 :: a18 :: a19 :: a20 :: a21 :: a22 :: a23 :: a24 :: a25 :: a26 :: a27 :: a28 :: y :: r) O Q = Q (a0 :: a1 :: a2 :: a3 :: a4 :: a5 :: a6 :: a7 :: a8 :: a9 :: a10 :: a11 :: a12 :: a13 :: a14 :: a15 :: a16 :: a17 :: a18 :: a19 :: a20 :: a21 :: a22 :: a23 :: a24 :: a25 :: a26 :: a27 :: a28 :: some x :: r) O := rfl
theorem obind_n29 {a0 : Option DV} {a1 : Option DV} {a2 : Option DV} {a3 : Option DV} {a4 : Option DV} {a5 : Option DV} {a6 : Option DV} {a7 : Option DV} {a8 : Option DV} {a9 : Option DV} {a10 : Option DV} {a11 : Option DV} {a12 : Option DV} {a13 : Option DV} {a14 : Option DV} {a15 : Option DV} {a16 : Option DV} {a17 : Option DV} {a18 : Option DV} {a19 : Option DV} {a20 : Option DV} {a21 : Option DV} {a22 : Option DV} {a23 : Option DV} {a24 : Option DV} {a25 : Option DV} {a26 : Option DV} {a27 : Option DV} {a28 : Option DV} {x : DV} {y : Option DV} {r : DSt} {K : DSt → Prop} : onSome (bind1 29 x (a0 :: a1 :: a2 :: a3 :: a4 :: a5 :: a6 :: a7 :: a8 :: a9 :: a10 :: a11 :: a12 :: a13 :: a14 :: a15 :: a16 :: a17 :: a18 :: a19 :: a20 :: a21 :: a22 :: a23 :: a24 :: a25 :: a26 :: a27 :: a28 :: y :: r)) K = K (a0 :: a1 :: a2 :: a3 :: a4 :: a5 :: a6 :: a7 :: a8 :: a9 :: a10 :: a11 :: a12 :: a13 :: a14 :: a15 :: a16 :: a17 :: a18 :: a19 :: a20 :: a21 :: a22 :: a23 :: a24 :: a25 :: a26 :: a27 :: a28 :: some x :: r) := rfl
theorem oslot_n29 {a0 : Option DV} {a1 : Option DV} {a2 : Option DV} {a3 : Option DV} {a4 : Option DV} {a5 : Option DV} {a6 : Option DV} {a7 : Option DV} {a8 : Option DV} {a9 : Option DV} {a10 : Option DV} {a11 : Option DV} {a12 : Option DV} {a13 : Option DV} {a14 : Option DV} {a15 : Option DV} {a16 : Option DV} {a17 : Option DV} {a18 : Option DV} {a19 : Option DV} {a20 : Option DV} {a21 : Option DV} {a22 : Option DV} {a23 : Option DV} {a24 : Option DV} {a25 : Option DV} {a26 : Option DV} {a27 : Option DV} {a28 : Option DV} {x : DV} {r : DSt} {K : DV → Prop} : onSome (slot (a0 :: a1 :: a2 :: a3 :: a4 :: a5 :: a6 :: a7 :: a8 :: a9 :: a10 :: a11 :: a12 :: a13 :: a14 :: a15 :: a16 :: a17 :: a18 :: a19 :: a20 :: a21 :: a22 :: a23 :: a24 :: a25 :: a26 :: a27 :: a28 :: some x :: r) 29) K = K x := rfl
theorem isiM_int : ("int" ∈ ["int", "str", "bool", "list", "tuple", "dict"]) = True := by decide
theorem subTy_NoneType_int : subTy "NoneType" "int" = false := rfl
theorem subTy_bool_int : subTy "bool" "int" = true := rfl
theorem subTy_int_int : subTy "int" "int" = true := rfl
theorem subTy_str_int : subTy "str" "int" = false := rfl
theorem subTy_tuple_int : subTy "tuple" "int" = false := rfl
theorem subTy_list_int : subTy "list" "int" = false := rfl
theorem subTy_dict_int : subTy "dict" "int" = false := rfl
theorem isiM_str : ("str" ∈ ["int", "str", "bool", "list", "tuple", "dict"]) = True := by decide
theorem subTy_NoneType_str : subTy "NoneType" "str" = false := rfl
theorem subTy_bool_str : subTy "bool" "str" = false := rfl
theorem subTy_int_str : subTy "int" "str" = false := rfl
theorem subTy_str_str : subTy "str" "str" = true := rfl
theorem subTy_tuple_str : subTy "tuple" "str" = false := rfl
theorem subTy_list_str : subTy "list" "str" = false := rfl
theorem subTy_dict_str : subTy "dict" "str" = false := rfl
theorem isiM_bool : ("bool" ∈ ["int", "str", "bool", "list", "tuple", "dict"]) = True := by decide
theorem subTy_NoneType_bool : subTy "NoneType" "bool" = false := rfl
theorem subTy_bool_bool : subTy "bool" "bool" = true := rfl
theorem subTy_int_bool : subTy "int" "bool" = false := rfl
theorem subTy_str_bool : subTy "str" "bool" = false := rfl
theorem subTy_tuple_bool : subTy "tuple" "bool" = false := rfl
theorem subTy_list_bool : subTy "list" "bool" = false := rfl
theorem subTy_dict_bool : subTy "dict" "bool" = false := rfl
theorem isiM_list : ("list" ∈ ["int", "str", "bool", "list", "tuple", "dict"]) = True := by decide
theorem subTy_NoneType_list : subTy "NoneType" "list" = false := rfl
theorem subTy_bool_list : subTy "bool" "list" = false := rfl
theorem subTy_int_list : subTy "int" "list" = false := rfl
theorem subTy_str_list : subTy "str" "list" = false := rfl
theorem subTy_tuple_list : subTy "tuple" "list" = false := rfl
theorem subTy_list_list : subTy "list" "list" = true := rfl
theorem subTy_dict_list : subTy "dict" "list" = false := rfl
theorem isiM_tuple : ("tuple" ∈ ["int", "str", "bool", "list", "tuple", "dict"]) = True := by decide
theorem subTy_NoneType_tuple : subTy "NoneType" "tuple" = false := rfl
theorem subTy_bool_tuple : subTy "bool" "tuple" = false := rfl
theorem subTy_int_tuple : subTy "int" "tuple" = false := rfl
theorem subTy_str_tuple : subTy "str" "tuple" = false := rfl
theorem subTy_tuple_tuple : subTy "tuple" "tuple" = true := rfl
theorem subTy_list_tuple : subTy "list" "tuple" = false := rfl
theorem subTy_dict_tuple : subTy "dict" "tuple" = false := rfl
theorem isiM_dict : ("dict" ∈ ["int", "str", "bool", "list", "tuple", "dict"]) = True := by decide
theorem subTy_NoneType_dict : subTy "NoneType" "dict" = false := rfl
theorem subTy_bool_dict : subTy "bool" "dict" = false := rfl
theorem subTy_int_dict : subTy "int" "dict" = false := rfl
theorem subTy_str_dict : subTy "str" "dict" = false := rfl
theorem subTy_tuple_dict : subTy "tuple" "dict" = false := rfl
theorem subTy_list_dict : subTy "list" "dict" = false := rfl
theorem subTy_dict_dict : subTy "dict" "dict" = true := rfl
theorem isNon_tup {xs : _} : isNon (.tup xs) = false := rfl
theorem isNon_lst {xs : _} : isNon (.lst xs) = false := rfl
theorem isNon_stup {xs : _} : isNon (.stup xs) = false := rfl
theorem isNon_slst {xs : _} : isNon (.slst xs) = false := rfl
theorem isNon_str {xs : _} : isNon (.str xs) = false := rfl
theorem isNon_int {xs : _} : isNon (.int xs) = false := rfl
theorem isNon_bl {xs : _} : isNon (.bl xs) = false := rfl
theorem isNon_ref {xs : _} : isNon (.ref xs) = false := rfl
theorem isNon_dK {xs : _} : isNon (.dK xs) = false := rfl
theorem isNon_dT {xs : _} : isNon (.dT xs) = false := rfl
end DL

set_option Elab.async false
set_option linter.all false
set_option maxRecDepth 100000
/-! DExtra: more rules over data. -/
namespace DL
open PySem PySem.Spec PyProof.Rows L2 TL
/-- xs + ys, the new list is owned -/
def dAddO (x y : DV) (O : Own) (Q : DVK) : Prop := lstQ O x fun xs => lstQ O y fun ys => xs.length + ys.length ≤ sizeLine ∧ ∀ p, O p = none → Q (.ref p) (oset O p (.lst (xs ++ ys)))
theorem od_addO {X : Cx} : OpD X (binaryOp .Add) dAddO := by
  refine ⟨OpR_imp op_cat ?_⟩
  rintro x y H VQ ⟨F, O, dx, dy, Q, rs, rx, ry, h, fin⟩
  obtain ⟨xs, e1, h⟩ := lstQ_ex h
  obtain ⟨ys, e2, h⟩ := lstQ_ex h
  obtain ⟨a, vs, rfl, h1, r1⟩ := lstOf_at rs rx e1
  obtain ⟨b, ws, rfl, h2, r2⟩ := lstOf_at rs ry e2
  refine ⟨a, b, vs, ws, rfl, rfl, h1, h2, by rw [r1.len, r2.len]; exact h.1, fun p hp => ?_⟩
  have s := rs.newO hp (o := .lst (vs ++ ws)) (c := .lst (xs ++ ys)) ⟨_, upd_same, r1.append r2⟩
  exact fin _ _ (h.2 p (rs.free hp).2) _ _ _ s (.ref p)
theorem forW_inv {g : DTG} {tb : DTS} {D : DEnds} (I : Nat → DSt → Own → Prop) {ds : List DV} {S : DSt} {O : Own} (h0 : I 0 S O)
    (step : ∀ (i : Nat) (S : DSt) (O : Own) (d : DV) (nx : DSt → Own → Prop), ds[i]? = some d → I i S O → (∀ S' O', I (i + 1) S' O' → nx S' O') → g d S O fun S2 O2 => tb { D with nx := nx, ct := nx, bk := D.nx } S2 O2)
    (done : ∀ S O, I ds.length S O → D.nx S O) : forW g tb D ds S O :=
  forW_by (α := DSt × Own) (fun x => x.1) (fun x => x.2) ds (fun i x => I i x.1 x.2) (fun i x d nx e h hn => step i x.1 x.2 d nx e h fun S' O' h' => hn (S', O') h') (fun x h => done x.1 x.2 h) (S, O) rfl rfl h0
/-- a comprehension with a test, over what is made of a list -/
theorem lcW_filtM {α : Type} {ow : Bool} {b : DV → DSt → Option DSt} {tt : DTT} {te : DTE} {S : DSt} {Q : DVK} {O : Own} (f g : α → DV) (p : α → Bool) : ∀ (ks : List α) (acc : List DV),
    (∀ k ∈ ks, ∀ K : Bool → Own → Prop, K (p k) O → onSome (b (f k) S) fun S2 => tt S2 O K) → (∀ k ∈ ks, p k = true → ∀ K : DVK, K (g k) O → onSome (b (f k) S) fun S2 => te S2 O K) → acc.length + ks.length < 16000000 →
    endLc ow Q (acc ++ (ks.filter p).map g) O → lcW ow b tt te S Q (ks.map f) acc O
  | [], acc, _, _, _, h => by rw [List.filter_nil, List.map_nil, List.append_nil] at h; exact h
  | k :: ks, acc, h1, h2, hl, h => by
    rw [List.length_cons] at hl
    rw [List.map_cons]
    unfold lcW
    have hS2 : ∃ S2, b (f k) S = some S2 := by
      obtain ⟨S2, e, _⟩ := onSome_ex (h1 k List.mem_cons_self (fun _ _ => True) trivial)
      exact ⟨S2, e⟩
    obtain ⟨S2, e⟩ := hS2
    have t1 : ∀ K : Bool → Own → Prop, K (p k) O → tt S2 O K := fun K hK => by
      obtain ⟨S3, e3, h3⟩ := onSome_ex (h1 k List.mem_cons_self K hK)
      rw [e] at e3; cases e3; exact h3
    refine onSome_of e (t1 _ ?_)
    cases hp : p k with
    | true =>
      have t2 : ∀ K : DVK, K (g k) O → te S2 O K := fun K hK => by
        obtain ⟨S3, e3, h3⟩ := onSome_ex (h2 k List.mem_cons_self hp K hK)
        rw [e] at e3; cases e3; exact h3
      rw [if_pos rfl]
      refine t2 _ ⟨by omega, lcW_filtM f g p ks _ (fun k hk => h1 k (List.mem_cons_of_mem _ hk)) (fun k hk => h2 k (List.mem_cons_of_mem _ hk)) (by rw [List.length_append]; simp; omega) ?_⟩
      rw [List.filter_cons_of_pos hp] at h
      rw [List.append_assoc]; exact h
    | false =>
      rw [if_neg (by decide)]
      refine lcW_filtM f g p ks _ (fun k hk => h1 k (List.mem_cons_of_mem _ hk)) (fun k hk => h2 k (List.mem_cons_of_mem _ hk)) (by omega) ?_
      rw [List.filter_cons_of_neg (by rw [hp]; decide)] at h
      exact h
/-- .. without a test -/
theorem lcW_map {α : Type} {ow : Bool} {b : DV → DSt → Option DSt} {te : DTE} {S : DSt} {Q : DVK} {O : Own} (f g : α → DV) (ks : List α) (acc : List DV)
    (h2 : ∀ k ∈ ks, ∀ K : DVK, K (g k) O → onSome (b (f k) S) fun S2 => te S2 O K) (hl : acc.length + ks.length < 16000000) (h : endLc ow Q (acc ++ ks.map g) O) : lcW ow b dYes te S Q (ks.map f) acc O := by
  refine lcW_pure _ (ks.map g) acc (by simp) (by simpa using hl) (fun i x y e1 e2 K hK => ?_) h
  rw [List.getElem?_map] at e1 e2
  cases e0 : ks[i]? with
  | none => rw [e0] at e1; cases e1
  | some k =>
    rw [e0] at e1 e2; cases e1; cases e2
    exact h2 k (List.mem_of_getElem? e0) K hK
/-- [y for x in xs for y in g(x)] -/
theorem lc2W_flat {α : Type} {ow : Bool} {b b1 : DV → DSt → Option DSt} {di1 : DTI} {te : DTE} {vs1 : List Nat} {S : DSt} {Q : DVK} {O : Own} (f : α → DV) (g : α → List DV) (m : Nat) : ∀ (ks : List α) (acc : List DV),
    (∀ k ∈ ks, (g k).length ≤ m) → (∀ k ∈ ks, ∀ K : List DV → Own → Prop, K (g k) O → onSome (b (f k) S) fun S2 => di1 S2 O K) →
    (∀ k ∈ ks, ∀ S2, b (f k) S = some S2 → ∀ y ∈ g k, ∀ K : DVK, K y O → onSome (b1 y (dwipe S2 vs1)) fun S3 => te S3 O K) → acc.length + ks.length * m < 16000000 →
    endLc ow Q (acc ++ ks.flatMap g) O → lc2W ow b dYes di1 b1 dYes te vs1 S Q (ks.map f) acc O
  | [], acc, _, _, _, _, h => by rw [List.flatMap_nil, List.append_nil] at h; exact h
  | k :: ks, acc, hm, h1, h2, hl, h => by
    rw [List.length_cons, Nat.add_mul, Nat.one_mul] at hl
    have hg := hm k List.mem_cons_self
    rw [List.map_cons]
    unfold lc2W
    obtain ⟨S2, e, _⟩ := onSome_ex (h1 k List.mem_cons_self (fun _ _ => True) trivial)
    refine onSome_of e ?_
    unfold dYes
    dsimp only
    rw [if_pos rfl]
    have t1 : ∀ K : List DV → Own → Prop, K (g k) O → di1 S2 O K := fun K hK => by
      obtain ⟨S3, e3, h3⟩ := onSome_ex (h1 k List.mem_cons_self K hK)
      rw [e] at e3; cases e3; exact h3
    refine t1 _ ?_
    refine lcG_pure (g k) (g k) acc rfl (by omega) (fun i x y e1 e2 K hK => ?_) ?_
    · rw [e1] at e2; cases e2
      exact h2 k List.mem_cons_self S2 e _ (List.mem_of_getElem? e1) K hK
    · refine lc2W_flat f g m ks _ (fun k hk => hm k (List.mem_cons_of_mem _ hk)) (fun k hk => h1 k (List.mem_cons_of_mem _ hk)) (fun k hk => h2 k (List.mem_cons_of_mem _ hk)) (by rw [List.length_append]; omega) ?_
      rw [List.append_assoc]
      rwa [List.flatMap_cons] at h
/-- a statement that goes on with all as it was, or leaves -/
theorem seq_keep {t u : DTS} {D : DEnds} {S : DSt} {O : Own} (h1 : u D S O) (h2 : ∀ R : DSt → Own → Prop, R S O → t { D with nx := R } S O) : dSeq t u D S O := h2 _ h1
theorem seq_keep_ {t u : DTS} {D : DEnds} {S : DSt} {O : Own} (h2 : ∀ R : DSt → Own → Prop, R S O → t { D with nx := R } S O) (h1 : u D S O) : dSeq t u D S O := h2 _ h1
theorem seq_keepP {P : Prop} {t u : DTS} {D : DEnds} {S : DSt} {O : Own} (h2 : ∀ R : DSt → Own → Prop, (P → R S O) → t { D with nx := R } S O) (h1 : P → u D S O) : dSeq t u D S O := h2 _ h1
theorem cutD_tail {x : DV} {xs : List DV} : cutD (x :: xs) (some 1) none = xs := by
  unfold cutD
  have e1 : HT.sIx (x :: xs).length 0 (some 1) = 1 := by
    have : HT.sIx (x :: xs).length 0 (some 1) = min 1 (xs.length + 1) := rfl
    rw [this]; omega
  have e2 : HT.sIx (x :: xs).length (x :: xs).length none = (x :: xs).length := rfl
  rw [e1, e2, List.drop_succ_cons, List.drop_zero]
  exact List.take_of_length_le (by rw [List.length_cons]; omega)
/-- the frame -/
def Fr (O O' : Own) (as : List Addr) : Prop := ∀ b, b ∉ as → O b ≠ none → O' b = O b
theorem Fr.at {O O' : Own} {as : List Addr} (h : Fr O O' as) {b : Addr} {c : Cell} (hb : O b = some c) (hn : b ∉ as) : O' b = some c := by rw [h b hn (by rw [hb]; simp), hb]
theorem Fr.refl {O : Own} {as : List Addr} : Fr O O as := fun _ _ _ => rfl
theorem Fr.trans {O O' O2 : Own} {as : List Addr} (h : Fr O O' as) (h2 : Fr O' O2 as) : Fr O O2 as := fun b hb ho => by
  have e := h b hb ho
  rw [h2 b hb (by rw [e]; exact ho), e]
theorem Fr.wk {O O' : Own} {as bs : List Addr} (h : Fr O O' as) (hs : ∀ a ∈ as, a ∈ bs) : Fr O O' bs := fun b hb ho => h b (fun q => hb (hs b q)) ho
theorem Fr.set {O O' : Own} {as : List Addr} {a : Addr} {c : Cell} (h : Fr O O' as) (ha : a ∈ as ∨ O a = none) : Fr O (oset O' a c) as := fun b hb ho => by
  have hne : b ≠ a := by
    rintro rfl
    rcases ha with ha | ha
    · exact hb ha
    · exact ho ha
  rw [oset_ne hne]; exact h b hb ho
theorem Fr.del {O O' : Own} {as : List Addr} {a : Addr} (h : Fr O O' as) (ha : a ∈ as ∨ O a = none) : Fr O (odel O' a) as := fun b hb ho => by
  have hne : b ≠ a := by
    rintro rfl
    rcases ha with ha | ha
    · exact hb ha
    · exact ho ha
  rw [odel_ne hne]; exact h b hb ho
theorem Fr.none {O O' : Own} {as : List Addr} (h : Fr O O' as) {b : Addr} (hb : O' b = none) (hn : b ∉ as) : O b = none := by
  cases e : O b with
  | none => rfl
  | some c => rw [h.at e hn] at hb; cases hb
theorem ne_of {O : Own} {a p : Addr} {c : Cell} (h : O a = some c) (hp : O p = none) : a ≠ p := by
  rintro rfl; rw [h] at hp; cases hp
end DL

set_option Elab.async false
set_option linter.all false
set_option maxRecDepth 100000
/-! DOwn: a comprehension over a list that is owned and stays as it is. -/
namespace DL
open PySem PySem.Spec PyProof.Rows L2 TL
theorem yield_own {K : PySem.W.Frag} {F2 H : Hp} {O : Own} {p : Addr} {ds : List DV} (rs : RS K F2 O H) (e : O p = some (.lst ds)) (i : Nat) :
    (∀ d, ds[i]? = some d → (Itl K p).go i H ∧ ∀ x H', (Itl K p).yld i H x H' → ∃ F3, Stp K F2 O H F3 O H' ∧ Rep K F3 x d) ∧ (ds.length ≤ i → (Itl K p).stop i H) := by
  obtain ⟨_, vs, h1, r⟩ := rs.own p _ e
  have h0 : SqL K H p vs := SqL.of h1
  refine ⟨fun d e => ?_, fun e => ⟨vs, h0, by rw [r.len]; exact e⟩⟩
  obtain ⟨v, hv, h2⟩ := r.get e
  refine ⟨⟨vs, v, h0, hv⟩, fun x H' ⟨q1, q2⟩ => ?_⟩
  subst q1
  have := q2 vs h0
  rw [hv] at this; cases this
  exact ⟨F2, .refl rs, h2⟩
def lcWO (ow : Bool) (p : Addr) (all : List DV) (b : DV → DSt → Option DSt) (tt : DTT) (te : DTE) (S : DSt) (Q : DVK) : List DV → List DV → Own → Prop
  | [], acc, O => O p = some (.lst all) ∧ endLc ow Q acc O
  | x :: r, acc, O => O p = some (.lst all) ∧ onSome (b x S) fun S2 => tt S2 O fun c O2 => if c = true then te S2 O2 fun y O3 => acc.length < 16000000 ∧ lcWO ow p all b tt te S Q r (acc ++ [y]) O3 else lcWO ow p all b tt te S Q r acc O2
def dLcO (ow : Bool) (td : DTE) (b : DV → DSt → Option DSt) (tt : DTT) (te : DTE) (vs : List Nat) (S : DSt) (O : Own) (Q : DVK) : Prop := td S O (kRef fun p O1 => onL (O1 p) fun all => lcWO ow p all b tt te (dwipe S vs) Q all [] O1)
theorem liftLcO {K : PySem.W.Frag} {ow : Bool} {td : DTE} {g : TG} {b : DV → DSt → Option DSt} {tt : DTT} {te : DTE} {vs : List Nat} (hg : TgtOk K g b vs) {σ : L2.St} {H : Hp} {VQ : VK} (h : liftE K (dLcO ow td b tt te vs) σ H VQ) :
    tLc (iList K (liftE K td)) g (liftT K tt) (liftE K te) vs σ H VQ := by
  obtain ⟨F, O, S, Q, rs, sr, h, fin⟩ := h
  refine ⟨F, O, S, _, rs, sr, h, fun dv O1 h1 v H1 F1 s1 rv => ?_⟩
  unfold kRef at h1
  split at h1
  · rename_i p
    cases rv
    obtain ⟨ds, ep, h1⟩ := onL_ex h1
    obtain ⟨_, vp, hp1, rp⟩ := s1.rs.own p _ ep
    refine ⟨p, rfl, ⟨vp, SqL.of hp1⟩, fun D hD => ?_⟩
    obtain ⟨hf1, ho1⟩ := s1.rs.free hD
    refine ⟨fun i m H' => m = ds.length - i ∧ ∃ F' O' acc vacc, Stp K F1 O1 H1 F' O' H' ∧ H' D = some (.lst vacc) ∧ F' D = none ∧ O' D = none ∧ Reps K F' vacc acc ∧ lcWO ow p ds b tt te (dwipe S vs) Q (ds.drop i) acc O',
      ⟨_, rfl, F1, O1, [], [], (Stp.refl s1.rs).side hD hf1 ho1 _, upd_same, hf1, ho1, .nil, h1⟩, ?_⟩
    rintro i m H' ⟨em, F', O', acc, vacc, s', hd', hf', ho', ra, h'⟩
    by_cases hi : i < ds.length
    · have e0 : ds[i]? = some ds[i] := List.getElem?_eq_getElem hi
      rw [List.drop_eq_getElem_cons hi] at h'
      unfold lcWO at h'
      obtain ⟨hown, h'⟩ := h'
      obtain ⟨y1, y2⟩ := yield_own s'.rs hown i
      obtain ⟨hgo, hy⟩ := y1 _ e0
      refine .inr ⟨hgo, fun H2 => ∃ F' O' acc vacc, Stp K F1 O1 H1 F' O' H2 ∧ H2 D = some (.lst vacc) ∧ F' D = none ∧ O' D = none ∧ Reps K F' vacc acc ∧ lcWO ow p ds b tt te (dwipe S vs) Q (ds.drop (i + 1)) acc O', fun H2 q => ⟨_, ?_, rfl, q⟩, fun x H2 q => ?_⟩
      · omega
      · obtain ⟨F3, s3, r3⟩ := hy x H2 q
        obtain ⟨S2, e2, h'⟩ := onSome_ex h'
        · refine hg.ok s3.rs r3 (((sr.mono s1.sub).mono s'.sub).mono s3.sub |>.wipe vs) e2 fun σ2 sr2 ew => ⟨ew.trans (wipe_wipe fun _ h => h), F3, O', S2, _, s3.rs, sr2, h', fun c O4 h4 H4 F4 s4 => ?_⟩
          have st4 := s3.trans s4
          dsimp only at h4 ⊢
          split
          · rename_i e; rw [if_pos e] at h4
            refine ⟨F4, O4, S2, _, s4.rs, sr2.mono s4.sub, h4, fun d O5 h5 v H5 F5 s5 r5 => ?_⟩
            have st5 := st4.trans s5
            obtain ⟨k1, k2⟩ := st5.keep D _ hd' ho'
            have k3 := st5.nof D _ hd' ho' hf'
            exact ⟨vacc, k1, by rw [ra.len]; exact lc_line h5.1, F5, O5, _, _, (s'.trans st5).side hD k3 k2 _, upd_same, k3, k2, (ra.mono st5.sub).append (.cons r5 .nil), h5.2⟩
          · rename_i e; rw [if_neg e] at h4
            obtain ⟨k1, k2⟩ := st4.keep D _ hd' ho'
            have k3 := st4.nof D _ hd' ho' hf'
            exact ⟨F4, O4, acc, vacc, s'.trans st4, k1, k3, k2, ra.mono st4.sub, h4⟩
    · rw [List.drop_eq_nil_of_le (by omega)] at h'
      unfold lcWO at h'
      exact .inl ⟨(yield_own s'.rs h'.1 i).2 (by omega), endLc_ok s' hD hd' hf' ho' ra h'.2 (fin.step s1)⟩
  · exact h1.elim
section
variable {X : Cx}
theorem de_lcO (ow : Bool) {elt tg iter : Expr} {ifs : List Expr} {scope : Scope} {own : List (Str × Nat)} {pos : Pos} {td : DTE} {g : TG} {b : DV → DSt → Option DSt} {tt : DTT} {te : DTE} (hc : X.calm = true) (hN : X.N.Nodup) (hi : DE X iter td) (ok : BlkOk X.N X.env.scope scope own) (hT : TgtOk X.K g b (own.map (·.2)))
    (hg : ∀ (s : Shared) (H : Hp) (C : Addr) (cl : List (Str × Addr)) (fp : List Addr), PG (X.blk s H scope (compEnvC scope cl C X.env) fp) tg g) (ht : ∀ (s : Shared) (H : Hp) (C : Addr) (cl : List (Str × Addr)) (fp : List Addr), DTs (X.blk s H scope (compEnvC scope cl C X.env) fp) ifs tt)
    (he : ∀ (s : Shared) (H : Hp) (C : Addr) (cl : List (Str × Addr)) (fp : List Addr), DE (X.blk s H scope (compEnvC scope cl C X.env) fp) elt te) (hs : ∀ x, foldedSetIterable iter X.env x = pure x := by intro _; rfl) :
    DE X (.ListComp elt [⟨tg, iter, ifs, 0⟩] scope pos) (dLcO ow td b tt te (own.map (·.2))) :=
  ⟨PE_imp (pe_lc (te := liftE X.K te) (tt := liftT X.K tt) hc hN (pi_list hi.pe) ok hg (fun s H C cl fp => (ht s H C cl fp).pts) (fun s H C cl fp => (he s H C cl fp).pe) hs) fun _ _ _ h => liftLcO hT h⟩
end
/-- the reading, by an invariant -/
theorem lcWO_by {ow : Bool} {p : Addr} {all : List DV} {b : DV → DSt → Option DSt} {tt : DTT} {te : DTE} {S : DSt} {Q : DVK} (I : List DV → Own → Prop) : ∀ (xs acc : List DV) (O : Own), I acc O → acc.length + xs.length < 16000000 → (∀ acc O, I acc O → O p = some (.lst all)) →
    (∀ x ∈ xs, ∀ (acc : List DV) (O : Own) (R : DVK) (R2 : Own → Prop), I acc O → (∀ y O', I (acc ++ [y]) O' → R y O') → (∀ O', I acc O' → R2 O') → onSome (b x S) fun S2 => tt S2 O fun c O2 => if c = true then te S2 O2 R else R2 O2) →
    (∀ acc' O, I acc' O → acc'.length ≤ acc.length + xs.length → endLc ow Q acc' O) → lcWO ow p all b tt te S Q xs acc O
  | [], acc, O, h, _, hp, _, k => ⟨hp _ _ h, k acc O h (Nat.le_refl _)⟩
  | x :: xs, acc, O, h, hl, hp, hs, k => by
    rw [List.length_cons] at hl
    refine ⟨hp _ _ h, ?_⟩
    refine hs x List.mem_cons_self acc O _ _ h (fun y O' h' => ⟨by omega, ?_⟩) (fun O' h' => ?_)
    · exact lcWO_by I xs (acc ++ [y]) O' h' (by rw [List.length_append]; simp; omega) hp (fun x hx => hs x (List.mem_cons_of_mem _ hx)) (fun acc' O h2 h3 => k acc' O h2 (by rw [List.length_append] at h3; simp at h3 ⊢; omega))
    · exact lcWO_by I xs acc O' h' (by omega) hp (fun x hx => hs x (List.mem_cons_of_mem _ hx)) (fun acc' O h2 h3 => k acc' O h2 (by simp; omega))
theorem lcW_byL {ow : Bool} {b : DV → DSt → Option DSt} {te : DTE} {S : DSt} {Q : DVK} (N : Nat) (I : List DV → Own → Prop) : ∀ (xs acc : List DV) (O : Own), I acc O → acc.length + xs.length = N → N < 16000000 →
    (∀ x ∈ xs, ∀ (acc : List DV) (O : Own) (K : DVK), acc.length < N → I acc O → (∀ y O', I (acc ++ [y]) O' → K y O') → onSome (b x S) fun S2 => te S2 O K) →
    (∀ acc' O, I acc' O → acc'.length = N → endLc ow Q acc' O) → lcW ow b dYes te S Q xs acc O
  | [], acc, O, h, hn, _, _, k => k acc O h (by simpa using hn)
  | x :: xs, acc, O, h, hn, hl, hs, k => by
    unfold lcW
    rw [List.length_cons] at hn
    have h1 := hs x List.mem_cons_self acc O (fun y O3 => acc.length < 16000000 ∧ lcW ow b dYes te S Q xs (acc ++ [y]) O3) (by omega) h (fun y O' h' => ⟨by omega, lcW_byL N I xs (acc ++ [y]) O' h' (by rw [List.length_append]; simp; omega) hl (fun x hx => hs x (List.mem_cons_of_mem _ hx)) k⟩)
    obtain ⟨S2, e, h2⟩ := onSome_ex h1
    exact onSome_of e h2
/-- xs * k, the new list is owned -/
def kMulO (xs : List DV) (Q : DVK) : DV → Own → Prop
  | .int k, O => -(2 ^ 63) ≤ k ∧ k < 2 ^ 63 ∧ xs.length * k.toNat ≤ sizeLine ∧ ∀ p, O p = none → Q (.ref p) (oset O p (.lst (List.replicate k.toNat xs).flatten))
  | _, _ => False
theorem kMulO_e1 {xs : List DV} {Q : DVK} {k : Int} {O : Own} : kMulO xs Q (.int k) O = (-(2 ^ 63) ≤ k ∧ k < 2 ^ 63 ∧ xs.length * k.toNat ≤ sizeLine ∧ ∀ p, O p = none → Q (.ref p) (oset O p (.lst (List.replicate k.toNat xs).flatten))) := rfl
def dMulO (x y : DV) (O : Own) (Q : DVK) : Prop := lstQ O x fun xs => kMulO xs Q y O
theorem od_mulO {X : Cx} : OpD X (binaryOp .Mult) dMulO := by
  refine ⟨OpR_imp op_rep ?_⟩
  rintro x y H VQ ⟨F, O, dx, dy, Q, rs, rx, ry, h, fin⟩
  have h0 := lstQ_ex h
  clear h
  obtain ⟨xs, e, h⟩ := h0
  unfold kMulO at h
  split at h
  · rename_i k
    cases ry
    obtain ⟨a, vs, rfl, h1, r1⟩ := lstOf_at rs rx e
    refine ⟨a, k, vs, rfl, rfl, h1, h.1, h.2.1, by rw [r1.len]; exact h.2.2.1, fun p hp => ?_⟩
    have s := rs.newO hp (o := .lst (List.replicate k.toNat vs).flatten) (c := .lst (List.replicate k.toNat xs).flatten) ⟨_, upd_same, r1.rep _⟩
    exact fin _ _ (h.2.2.2 p (rs.free hp).2) _ _ _ s (.ref p)
  · exact h.elim
end DL

set_option Elab.async false
set_option linter.all false
set_option maxRecDepth 100000
/-! LawMath: what the laws' own drawing has in common. -/
namespace W1
open PySem PySem.Spec PyProof.Rows L2 TL DL
/-- the dice: a list of the script, a place, what is mixed, what is left -/
def Dice (c : Cell) : Prop := ∃ (ns : List Int) (p m k : Int), c = .lst [.slst (ns.map DV.int), .int p, .int m, .int k] ∧ 0 ≤ p ∧ 0 ≤ m ∧ m < 2147483647 ∧ 0 ≤ k ∧ ns.length ≤ 63
/-- data of a depth -/
inductive Pure : Nat → DV → Prop
  | non {n} : Pure n .non
  | bl {n} (b) : Pure n (.bl b)
  | int {n} (i) : Pure n (.int i)
  | str {n} (x) : Pure n (.str x)
  | tup {n} {xs : List DV} : (∀ x ∈ xs, Pure n x) → xs.length ≤ 1000000 → Pure (n + 1) (.tup xs)
  | lst {n} {xs : List DV} : (∀ x ∈ xs, Pure n x) → xs.length ≤ 1000000 → Pure (n + 1) (.lst xs)
/-- what stands there to be read -/
def Sees (O : Own) (d v : DV) : Prop := d = v ∨ ∃ a xs, d = .ref a ∧ O a = some (.lst xs) ∧ v = .lst xs
end W1
namespace W1
open PySem PySem.Spec PyProof.Rows L2 TL DL
theorem mem_tuple : ("tuple" ∈ ["int", "str", "bool", "list", "tuple", "dict"]) = True := by decide
theorem mem_list : ("list" ∈ ["int", "str", "bool", "list", "tuple", "dict"]) = True := by decide
theorem mem_int : ("int" ∈ ["int", "str", "bool", "list", "tuple", "dict"]) = True := by decide
theorem mem_bool : ("bool" ∈ ["int", "str", "bool", "list", "tuple", "dict"]) = True := by decide
theorem mem_str : ("str" ∈ ["int", "str", "bool", "list", "tuple", "dict"]) = True := by decide
theorem dIsi_to {O : Own} {d : DV} {b a : String} {Q : DVK} (h : tyName O d = some a) (hb : b ∈ ["int", "str", "bool", "list", "tuple", "dict"]) (hq : Q (.bl (subTy a b)) O) : dIsi [d, .ty b] O Q := by
  unfold dIsi
  exact onSome_of h ⟨hb, hq⟩
theorem seq_len {O : Own} {d : DV} {xs : List DV} {Q : DVK} (h : seqOf O d = some xs) (hq : Q (.int xs.length) O) : dLen [d] O Q := by
  unfold seqOf at h
  split at h <;> try (cases h; first | done | exact hq)
  rename_i a
  show onL (O a) _
  cases e : O a with
  | none => rw [e] at h; cases h
  | some c =>
    rw [e] at h
    cases c with
    | lst ys => cases h; exact hq
    | _ => cases h
theorem seq_q {O : Own} {d : DV} {xs : List DV} {K : List DV → Prop} (h : seqOf O d = some xs) (hq : K xs) : seqQ O d K := by
  unfold seqOf at h
  split at h <;> try (cases h; first | done | exact hq)
  rename_i a
  show onL (O a) _
  cases e : O a with
  | none => rw [e] at h; cases h
  | some c =>
    rw [e] at h
    cases c with
    | lst ys => cases h; exact hq
    | _ => cases h
theorem seq_ix {O : Own} {d x : DV} {xs : List DV} {i : Int} {Q : DVK} (h : seqOf O d = some xs) (hx : atI xs i = some x) (hq : Q x O) : dIx d (.int i) O Q := by
  have k : seqQ O d fun xs => onSome (atI xs i) fun d => Q d O := seq_q h (onSome_of hx hq)
  unfold seqOf at h
  split at h <;> first | (cases h; done) | exact k
theorem lcW_skip {ow : Bool} {b : DV → DSt → Option DSt} {tt : DTT} {te : DTE} {S : DSt} {Q : DVK} {O : Own} : ∀ (xs acc : List DV),
    (∀ x ∈ xs, ∀ K : Bool → Own → Prop, K false O → onSome (b x S) fun S2 => tt S2 O K) → endLc ow Q acc O → lcW ow b tt te S Q xs acc O
  | [], acc, _, h => h
  | x :: xs, acc, hs, h => by
    unfold lcW
    have h0 := hs x List.mem_cons_self
    obtain ⟨S2, e, _⟩ := onSome_ex (h0 (fun _ _ => True) trivial)
    have h1 := fun K hK => onSome_ex (h0 K hK)
    refine onSome_of e ?_
    have h2 : ∀ K : Bool → Own → Prop, K false O → tt S2 O K := fun K hK => by
      obtain ⟨S3, e3, h3⟩ := h1 K hK
      rw [e] at e3; cases e3; exact h3
    exact h2 _ (ite_f (by decide) (lcW_skip xs acc (fun x hx => hs x (List.mem_cons_of_mem _ hx)) h))
end W1
namespace W1
open PySem PySem.Spec PyProof.Rows L2 TL DL
theorem Sees.seq {O : Own} {d : DV} {xs : List DV} : (Sees O d (.lst xs) → seqOf O d = some xs ∧ tyName O d = some "list") ∧ (Sees O d (.tup xs) → seqOf O d = some xs ∧ tyName O d = some "tuple") := by
  refine ⟨?_, ?_⟩
  · rintro (rfl | ⟨a, ys, rfl, h, e⟩)
    · exact ⟨rfl, rfl⟩
    · cases e
      refine ⟨?_, ?_⟩
      · show (match O a with | some (.lst xs) => some xs | _ => none) = _
        rw [h]
      · show (match O a with | some (.lst _) => some "list" | some (.dK _) => some "dict" | some (.dT _) => some "dict" | _ => none) = _
        rw [h]
  · rintro (rfl | ⟨a, ys, rfl, h, e⟩)
    · exact ⟨rfl, rfl⟩
    · cases e
theorem Sees.flat {O : Own} {d v : DV} (h : Sees O d v) (hv : ∀ xs, v ≠ .lst xs) : d = v := by
  rcases h with h | ⟨a, ys, rfl, h, e⟩
  · exact h
  · exact absurd e (hv _)
/-- the comprehension of _law_like over what is alike -/
theorem like_all {b : DV → DSt → Option DSt} {tt : DTT} {S : DSt} {Q : DVK} {O : Own} {te : DTE} {m : Nat}
    (h : ∀ k : Nat, k < m → ∀ K : Bool → Own → Prop, K false O → onSome (b (.int k) S) fun S2 => tt S2 O K) (hq : Q (.lst []) O) :
    lcW false b tt te S Q ((List.range m).map fun k : Nat => DV.int k) [] O := by
  refine lcW_skip _ _ (fun x hx K hK => ?_) hq
  obtain ⟨k, hk, rfl⟩ := List.mem_map.mp hx
  exact h k (List.mem_range.mp hk) K hK
end W1
namespace W1
open PySem PySem.Spec PyProof.Rows L2 TL DL
/-- a drawn name -/
def IsName (w : Str) : Prop := ∃ (c : Nat) (l : List Nat), tl w = c :: l ∧ c ∈ tl (Str.ofString "bfhjpqrtvxz") ∧ (∀ x ∈ l, x ∈ tl (Str.ofString "abdefilmnostuwy")) ∧ l.length ≤ 2
def WK (rl : Addr) (row last : Str) : List (Key × DV) := [(.inr "rows", .ref rl), (.inr "row", .str row), (.inr "last", .str last)]
def WCell (rl : Addr) (row last : Str) : Cell := .dK (WK rl row last)
theorem wk_rows {rl : Addr} {row last : Str} : dget (WK rl row last) (.inr "rows") = some (.ref rl) := rfl
theorem wk_row {rl : Addr} {row last : Str} : dget (WK rl row last) (.inr "row") = some (.str row) := rfl
theorem wk_last {rl : Addr} {row last : Str} : dget (WK rl row last) (.inr "last") = some (.str last) := rfl
theorem wk_upd {rl : Addr} {row last a b : Str} : dmerge (WK rl row last) (dmerge [] [(.inr "row", .str a), (.inr "last", .str b)]) = WK rl a b := rfl
theorem wk_len {rl : Addr} {row last : Str} : (WK rl row last).length = 3 := rfl
theorem wk_len2 {a b : DV} : (dmerge [] [(.inr "row", a), (.inr "last", b)] : List (Key × DV)).length = 2 := rfl
theorem dEqP_nil0 {O : Own} {Q : DVK} : dEqP true (.lst []) (.lst []) O Q = Q (.bl false) O := by simp only [dEqP, toPy, toPys, onSome_e1]; exact propext ⟨fun h => h.2.2, fun h => ⟨rfl, rfl, h⟩⟩
theorem dEqP_nil1 {O : Own} {Q : DVK} {i : Int} : dEqP true (.lst [.int i]) (.lst []) O Q = Q (.bl true) O := by simp only [dEqP, toPy, toPys, onSome_e1]; exact propext ⟨fun h => h.2.2, fun h => ⟨rfl, rfl, h⟩⟩
theorem dEqP_nil2 {O : Own} {Q : DVK} {i j : Int} : dEqP true (.lst [.int i, .int j]) (.lst []) O Q = Q (.bl true) O := by simp only [dEqP, toPy, toPys, onSome_e1]; exact propext ⟨fun h => h.2.2, fun h => ⟨rfl, rfl, h⟩⟩
theorem len_lt16 {α : Type} {l : List α} (h : l.length ≤ 100) : l.length < 16000000 := by omega
theorem dSeq_mid {t u : DTS} {D : DEnds} {S : DSt} {O : Own} (Mid : DSt → Own → Prop) (h1 : ∀ R : DSt → Own → Prop, (∀ S' O', Mid S' O' → R S' O') → t { D with nx := R } S O) (h2 : ∀ S' O', Mid S' O' → u D S' O') : dSeq t u D S O := h1 _ h2
theorem dSeq_mid2 {t t2 u : DTS} {D : DEnds} {S : DSt} {O : Own} (Mid : DSt → Own → Prop) (h1 : ∀ R : DSt → Own → Prop, (∀ S' O', Mid S' O' → R S' O') → dSeq t t2 { D with nx := R } S O) (h2 : ∀ S' O', Mid S' O' → u D S' O') : dSeq t (dSeq t2 u) D S O := h1 _ h2
theorem dSeq_mid3 {t t2 t3 u : DTS} {D : DEnds} {S : DSt} {O : Own} (Mid : DSt → Own → Prop) (h1 : ∀ R : DSt → Own → Prop, (∀ S' O', Mid S' O' → R S' O') → dSeq t (dSeq t2 t3) { D with nx := R } S O) (h2 : ∀ S' O', Mid S' O' → u D S' O') : dSeq t (dSeq t2 (dSeq t3 u)) D S O := h1 _ h2
abbrev lets : List Nat := tl (Str.ofString "abcdefghijklmnopqrstuvwxyz")
abbrev nums : List Nat := tl (Str.ofString "0123456789")
def Glues (last word : Str) : Prop := ∃ x y, (tl last).getLast? = some x ∧ (tl word).head? = some y ∧ ((x ∈ lets ∧ y ∈ lets) ∨ (x ∈ nums ∧ y ∈ nums) ∨ (last = "<" ∧ y ∈ tl (Str.ofString "=>")))
/-- what stands behind a row's words -/
def Tail (t : Str) : Prop := t = "" ∨ t = " " ∨ t = "  # if x"
/-- a row without words -/
def Spare (t : Str) : Prop := t = "" ∨ t = "   " ∨ t = "# end"
end W1
namespace W1
open PySem PySem.Spec PyProof.Rows L2 TL DL
theorem flat_one (g : Nat) (x : Nat) : (List.replicate g [x]).flatten = List.replicate g x := by
  induction g with
  | zero => rfl
  | succ g ih => rw [List.replicate_succ, List.flatten_cons, ih]; rfl
theorem repS_sp (g : Int) : repS " " g = ofL (List.replicate g.toNat 32) := by
  unfold repS
  rw [show tl (Str.ofString " ") = [32] from rfl, flat_one]
end W1
namespace W1
open PySem PySem.Spec PyProof.Rows L2 TL DL
theorem lcW_by {ow : Bool} {b : DV → DSt → Option DSt} {te : DTE} {S : DSt} {Q : DVK} (I : List DV → Own → Prop) : ∀ (xs acc : List DV) (O : Own), I acc O → acc.length + xs.length < 16000000 →
    (∀ x ∈ xs, ∀ (acc : List DV) (O : Own) (K : DVK), I acc O → (∀ y O', I (acc ++ [y]) O' → K y O') → onSome (b x S) fun S2 => te S2 O K) →
    (∀ acc' O, I acc' O → acc'.length = acc.length + xs.length → endLc ow Q acc' O) → lcW ow b dYes te S Q xs acc O
  | [], acc, O, h, _, _, k => k acc O h rfl
  | x :: xs, acc, O, h, hl, hs, k => by
    unfold lcW
    rw [List.length_cons] at hl
    have h1 := hs x List.mem_cons_self acc O (fun y O3 => acc.length < 16000000 ∧ lcW ow b dYes te S Q xs (acc ++ [y]) O3) h (fun y O' h' => ⟨by omega, lcW_by I xs (acc ++ [y]) O' h' (by rw [List.length_append]; simp; omega) (fun x hx => hs x (List.mem_cons_of_mem _ hx)) (fun acc' O h2 h3 => k acc' O h2 (by rw [h3, List.length_append, List.length_cons]; simp; omega))⟩)
    obtain ⟨S2, e, h2⟩ := onSome_ex h1
    exact onSome_of e h2
end W1
namespace W1
open PySem PySem.Spec PyProof.Rows L2 TL DL
theorem strsOf_map {α : Type} (f : α → Str) : ∀ l : List α, strsOf (l.map fun x => DV.str (f x)) = some (l.map f)
  | [] => rfl
  | x :: l => by
    have := strsOf_map f l
    simp only [List.map_cons, strsOf, this]
theorem joinL_nil : ∀ ps : List (List Nat), TL.joinL [] ps = ps.flatten
  | [] => rfl
  | [p] => by simp [TL.joinL]
  | p :: q :: r => by
    have := joinL_nil (q :: r)
    simp only [TL.joinL, List.flatten_cons] at this ⊢
    simp [this]
theorem join_chars (l : List Nat) : Txt.join "" (l.map fun x => (⟨#[x]⟩ : Str)) = ofL l := by
  rw [TL.join_eq]
  apply ext_tl
  rw [TL.tl_join, List.map_map, show tl (Str.ofString "") = [] from rfl, joinL_nil, tl_ofL]
  induction l with
  | nil => rfl
  | cons x l ih => rw [List.map_cons, List.flatten_cons, ih]; rfl
theorem sum_ones (l : List Nat) : ((l.map fun x => (⟨#[x]⟩ : Str)).map (fun x => (tl x).length)).sum = l.length := by
  induction l with
  | nil => rfl
  | cons x l ih => rw [List.map_cons, List.map_cons, List.sum_cons, ih, List.length_cons]; exact Nat.add_comm 1 _
end W1

set_option Elab.async false
set_option linter.all false
set_option maxRecDepth 100000
namespace W1
open PySem PySem.Spec PyProof.Rows L2 TL DL
/-- data of a depth whose texts are made of signs that there are -/
inductive PureS : Nat → DV → Prop
  | non {n} : PureS n .non
  | bl {n} (b) : PureS n (.bl b)
  | int {n} (i) : PureS n (.int i)
  | str {n} (x : Str) : x.cps.all (· < 0x110000) = true → PureS n (.str x)
  | tup {n} {xs : List DV} : (∀ x ∈ xs, PureS n x) → PureS (n + 1) (.tup xs)
  | lst {n} {xs : List DV} : (∀ x ∈ xs, PureS n x) → PureS (n + 1) (.lst xs)
theorem toPys_all {n : Nat} : ∀ {xs : List DV}, (∀ x ∈ xs, ∃ p, toPy x = some p ∧ p.canLay0 = true ∧ p.depth ≤ n) → ∃ ps, toPys xs = some ps ∧ PyData.canLayAll0 ps = true ∧ PyData.depthAll ps ≤ n ∧ ps.length = xs.length
  | [], _ => ⟨[], rfl, rfl, Nat.zero_le _, rfl⟩
  | x :: xs, h => by
    obtain ⟨p, e, h1, h2⟩ := h x List.mem_cons_self
    obtain ⟨ps, e', h3, h4, h5⟩ := toPys_all fun x hx => h x (List.mem_cons_of_mem _ hx)
    refine ⟨p :: ps, by simp only [toPys, e, e'], by simp only [PyData.canLayAll0, h1, h3]; rfl, ?_, by simp [h5]⟩
    show max p.depth (PyData.depthAll ps) ≤ n
    omega
theorem pure_py : ∀ {n : Nat} {d : DV}, PureS n d → ∃ p, toPy d = some p ∧ p.canLay0 = true ∧ p.depth ≤ n := by
  intro n d h
  induction h with
  | non => exact ⟨_, rfl, rfl, Nat.zero_le _⟩
  | bl b => exact ⟨_, rfl, rfl, Nat.zero_le _⟩
  | int i => exact ⟨_, rfl, rfl, Nat.zero_le _⟩
  | str x hx => exact ⟨.str x, rfl, hx, Nat.zero_le _⟩
  | @tup n xs _ ih =>
    obtain ⟨ps, e, h1, h2, _⟩ := toPys_all ih
    exact ⟨.tuple ps, by simp only [toPy, e], h1, Nat.succ_le_succ h2⟩
  | @lst n xs _ ih =>
    obtain ⟨ps, e, h1, h2, _⟩ := toPys_all ih
    exact ⟨.list ps, by simp only [toPy, e], h1, Nat.succ_le_succ h2⟩
theorem shaped_of {n : Nat} {p : PyData} (h : p.canLay0 = true) (h2 : p.depth ≤ n) (hn : n ≤ 64) : SeqAt.shaped p = true := by
  unfold SeqAt.shaped
  rw [h, decide_eq_true (by omega)]; rfl
/-- a tuple that is not empty, beside the empty one -/
theorem tup_nil {neg : Bool} {n : Nat} {xs : List DV} {O : Own} {Q : DVK} (h : PureS n (.tup xs)) (hn : n ≤ 64) (k : Q (.bl (if neg then !decide (xs = []) else decide (xs = []))) O) : dEqP neg (.tup xs) (.tup []) O Q := by
  obtain ⟨p, e, h1, h2⟩ := pure_py h
  unfold dEqP
  refine onSome_of e (onSome_of (x := .tuple []) rfl ⟨shaped_of h1 h2 hn, rfl, ?_⟩)
  have e2 : PyData.eqv p (.tuple []) = decide (xs = []) := by
    cases xs with
    | nil => simp only [toPy, toPys] at e; cases e; rfl
    | cons x xs =>
      simp only [toPy, toPys] at e
      cases e3 : toPy x with
      | none => rw [e3] at e; cases e
      | some q =>
        cases e4 : toPys xs with
        | none => rw [e3, e4] at e; cases e
        | some qs => rw [e3, e4] at e; cases e; rfl
  rw [e2]
  exact k
end W1

set_option Elab.async false
set_option linter.all false
set_option maxRecDepth 100000
namespace W1
open PySem PySem.Spec PyProof.Rows L2 TL DL
/-! ### what is worth something, as a tree -/
inductive Ex where
  | num (n : Nat) | truth (b : Bool) | name (f n : Str) | call (f n : Str) (as : List Ex) | un (neg : Bool) (a : Ex) | bin (op : Str) (a b : Ex)
abbrev binOps : List Str := ["or", "and", "=", "<>", "<", "<=", "+", "-", "*", "/", "mod"]
mutual
def enc : Ex → DV
  | .num n => .tup [.str "num", .non, .int (n : Int)]
  | .truth b => .tup [.str "truth", .non, .bl b]
  | .name f n => .tup [.str "name", .non, .str f, .str n]
  | .call f n as => .tup [.str "call", .non, .str f, .str n, .tup (encL as)]
  | .un neg a => .tup [.str (if neg then "neg" else "not"), .non, enc a]
  | .bin op a b => .tup [.str op, .non, enc a, enc b]
def encL : List Ex → List DV
  | [] => []
  | e :: es => enc e :: encL es
end
def opLev (op : Str) : Nat := if op = "or" then 1 else if op = "and" then 2 else if op = "+" ∨ op = "-" then 5 else if op = "*" ∨ op = "/" ∨ op = "mod" then 6 else 4
def paren (b : Prop) [Decidable b] (s : Str) : Str := if b then s else "(" ++ s ++ ")"
def nmT (f n : Str) : Str := if f = "" then n else f ++ "." ++ n
def lsum (m : Nat) : Nat := if m = 4 then m + 1 else m
mutual
def tx : Ex → Nat → Str
  | .num n, _ => toString (n : Int)
  | .truth b, _ => if b then "yes" else "no"
  | .name f n, _ => nmT f n
  | .call f n as, _ => nmT f n ++ "(" ++ Txt.join ", " (txL as) ++ ")"
  | .un neg a, l => if neg then paren (7 ≥ l) ("-" ++ tx a 7) else paren (3 ≥ l) ("not " ++ tx a 3)
  | .bin op a b, l => paren (opLev op ≥ l) (tx a (lsum (opLev op)) ++ " " ++ op ++ " " ++ tx b (opLev op + 1))
def txL : List Ex → List Str
  | [] => []
  | e :: es => tx e 1 :: txL es
end
mutual
/-- well made, of a depth -/
def WF : Nat → Ex → Prop
  | 0, _ => False
  | d + 1, .num n => n < 1000000
  | d + 1, .truth _ => True
  | d + 1, .name f n => (tl f).length ≤ 10 ∧ (tl n).length ≤ 10
  | d + 1, .call f n as => (tl f).length ≤ 10 ∧ (tl n).length ≤ 10 ∧ as.length ≤ 3 ∧ WFL d as
  | d + 1, .un _ a => WF d a
  | d + 1, .bin op a b => op ∈ binOps ∧ WF d a ∧ WF d b
def WFL : Nat → List Ex → Prop
  | _, [] => True
  | d, e :: es => WF d e ∧ WFL d es
end
/-- how long the text of a depth may be -/
def room : Nat → Nat
  | 0 => 10
  | d + 1 => 3 * room d + 60
theorem op_len : ∀ s ∈ binOps, (tl s).length ≤ 3 := by decide +kernel
theorem paren_len {b : Prop} [Decidable b] {s : Str} : (tl (paren b s)).length ≤ (tl s).length + 2 := by
  unfold paren
  split
  · omega
  · rw [app_len, app_len]
    have e1 : (tl (Str.ofString "(")).length = 1 := rfl
    have e2 : (tl (Str.ofString ")")).length = 1 := rfl
    omega
theorem nmT_len {f n : Str} (h1 : (tl f).length ≤ 10) (h2 : (tl n).length ≤ 10) : (tl (nmT f n)).length ≤ 21 := by
  unfold nmT
  split
  · omega
  · rw [app_len, app_len]
    have e1 : (tl (Str.ofString ".")).length = 1 := rfl
    omega
theorem txL_length : ∀ as : List Ex, (txL as).length = as.length
  | [] => by simp [txL]
  | a :: as => by simp [txL, txL_length as]
theorem encL_length : ∀ as : List Ex, (encL as).length = as.length
  | [] => by simp [encL]
  | a :: as => by simp [encL, encL_length as]
theorem room_up (d : Nat) : 10 ≤ room d := by
  cases d with
  | zero => simp [room]
  | succ d => simp only [room]; omega
mutual
theorem tx_len : ∀ (e : Ex) (d l : Nat), WF d e → (tl (tx e l)).length ≤ room d
  | e, 0, l, h => by simp [WF] at h
  | .num n, d + 1, l, h => by
    simp only [WF] at h
    simp only [tx, room]
    have := num_len h
    omega
  | .truth b, d + 1, l, h => by
    have e : (tl (tx (.truth b) l)).length ≤ 3 := by
      simp only [tx]
      cases b <;> decide
    simp only [room]; omega
  | .name f n, d + 1, l, h => by
    simp only [WF] at h
    simp only [tx, room]
    have := nmT_len h.1 h.2
    omega
  | .call f n as, d + 1, l, h => by
    simp only [WF] at h
    obtain ⟨h1, h2, h3, h4⟩ := h
    have := nmT_len h1 h2
    have := join_len (sep := ", ") (txL_len as d h4)
    rw [txL_length] at this
    have e3 : (tl (Str.ofString ", ")).length = 2 := rfl
    rw [e3] at this
    have hm : room d * as.length ≤ room d * 3 := Nat.mul_le_mul_left _ h3
    have e1 : (tl (Str.ofString "(")).length = 1 := rfl
    have e2 : (tl (Str.ofString ")")).length = 1 := rfl
    simp only [tx, room]
    rw [app_len, app_len, app_len]
    omega
  | .un neg a, d + 1, l, h => by
    simp only [WF] at h
    have i1 := tx_len a d 7 h
    have i2 := tx_len a d 3 h
    simp only [tx, room]
    cases neg
    · have := paren_len (b := 3 ≥ l) (s := "not " ++ tx a 3)
      rw [app_len] at this
      have e1 : (tl (Str.ofString "not ")).length = 4 := rfl
      simp only [Bool.false_eq_true, if_false]
      omega
    · have := paren_len (b := 7 ≥ l) (s := "-" ++ tx a 7)
      rw [app_len] at this
      have e1 : (tl (Str.ofString "-")).length = 1 := rfl
      simp only [if_true]
      omega
  | .bin op a b, d + 1, l, h => by
    simp only [WF] at h
    obtain ⟨h1, h2, h3⟩ := h
    have i1 := tx_len a d (lsum (opLev op)) h2
    have i2 := tx_len b d (opLev op + 1) h3
    have i3 := op_len op h1
    have := paren_len (b := opLev op ≥ l) (s := tx a (lsum (opLev op)) ++ " " ++ op ++ " " ++ tx b (opLev op + 1))
    rw [app_len, app_len, app_len, app_len] at this
    have e1 : (tl (Str.ofString " ")).length = 1 := rfl
    simp only [tx, room]
    omega
theorem txL_len : ∀ (as : List Ex) (d : Nat), WFL d as → ∀ s ∈ txL as, (tl s).length ≤ room d
  | [], d, h => by simp [txL]
  | a :: as, d, h => by
    simp only [WFL] at h
    intro s hs
    simp only [txL, List.mem_cons] at hs
    rcases hs with rfl | hs
    · exact tx_len a d 1 h.1
    · exact txL_len as d h.2 s hs
end
end W1
namespace W1
open PySem PySem.Spec PyProof.Rows L2 TL DL
theorem par_ok {Q : DVK} {O : Own} {m l : Nat} {s : Str} (hs : (tl s).length ≤ 1000000) (k : Q (.str (paren (m ≥ l) s)) O) : if (l : Int) ≤ (m : Int) then Q (.str s) O else (tl (Str.ofString "(")).length + (tl s).length ≤ sizeLine ∧ (tl (Str.ofString "(" ++ s)).length + (tl (Str.ofString ")")).length ≤ sizeLine ∧ Q (.str (Str.ofString "(" ++ s ++ Str.ofString ")")) O := by
  have e1 : (tl (Str.ofString "(")).length = 1 := rfl
  have e2 : (tl (Str.ofString ")")).length = 1 := rfl
  unfold paren at k
  refine ite_c (fun q => ?_) (fun q => ⟨line_of (by omega), line_of (by rw [app_len]; omega), ?_⟩)
  · rw [if_pos (by omega)] at k; exact k
  · rw [if_neg (by omega)] at k; exact k
theorem op_ne {op : Str} (h : op ∈ binOps) : op ≠ "num" ∧ op ≠ "truth" ∧ op ≠ "name" ∧ op ≠ "call" ∧ op ≠ "not" ∧ op ≠ "neg" ∧ "name" ≠ op ∧ "call" ≠ op := by
  have k : ∀ op ∈ binOps, op ≠ "num" ∧ op ≠ "truth" ∧ op ≠ "name" ∧ op ≠ "call" ∧ op ≠ "not" ∧ op ≠ "neg" ∧ "name" ≠ op ∧ "call" ≠ op := by decide +kernel
  exact k op h
theorem opLev_le {op : Str} : opLev op ≤ 6 ∧ 1 ≤ opLev op := by
  unfold opLev
  repeat' split
  all_goals omega
theorem room_mono {a b : Nat} (h : a ≤ b) : room a ≤ room b := by
  induction h with
  | refl => exact Nat.le_refl _
  | step h ih => simp only [room]; omega
theorem room_le {n : Nat} (h : n ≤ 6) : room n ≤ 50000 := by
  have := room_mono h
  have : room 6 = 29130 := by decide
  omega
theorem tx_le {e : Ex} {n l : Nat} (h : WF n e) (hn : n ≤ 6) : (tl (tx e l)).length ≤ 50000 := Nat.le_trans (tx_len e n l h) (room_le hn)
end W1
namespace W1
open PySem PySem.Spec PyProof.Rows L2 TL DL
theorem encL_map : ∀ as : List Ex, encL as = as.map enc
  | [] => by simp [encL]
  | a :: as => by simp [encL, encL_map as]
theorem txL_map : ∀ as : List Ex, txL as = as.map fun e => tx e 1
  | [] => by simp [txL]
  | a :: as => by simp [txL, txL_map as]
theorem wfl_mem {d : Nat} : ∀ {as : List Ex}, WFL d as → ∀ e ∈ as, WF d e
  | [], _, e, h => by cases h
  | a :: as, h, e, he => by
    simp only [WFL] at h
    rcases List.mem_cons.mp he with rfl | he
    · exact h.1
    · exact wfl_mem h.2 e he
theorem strsOf_strs : ∀ l : List Str, strsOf (l.map DV.str) = some l
  | [] => rfl
  | x :: l => by
    have := strsOf_strs l
    simp only [List.map_cons, strsOf, this]
/-- a comprehension over the parts of a call -/
theorem args_lc {n : Nat} {as : List Ex} {b : DV → DSt → Option DSt} {te : DTE} {S : DSt} {Q : DVK} {O : Own} (hl : as.length ≤ 3)
    (hs : ∀ e ∈ as, ∀ K : DVK, K (.str (tx e 1)) O → onSome (b (enc e) S) fun S2 => te S2 O K) (h : Q (.lst ((txL as).map DV.str)) O) : lcW false b dYes te S Q (encL as) [] O := by
  refine lcW_pure _ ((txL as).map DV.str) [] (by rw [List.length_map, txL_length, encL_length]) (by rw [encL_length]; show 0 + _ < _; omega) (fun i x y e1 e2 K hK => ?_) h
  rw [encL_map, List.getElem?_map] at e1
  rw [txL_map, List.map_map, List.getElem?_map] at e2
  cases e0 : as[i]? with
  | none => rw [e0] at e1; cases e1
  | some e =>
    rw [e0] at e1 e2
    cases e1; cases e2
    exact hs e (List.mem_of_getElem? e0) K hK
end W1
namespace W1
open PySem PySem.Spec PyProof.Rows L2 TL DL
def LevOf (w : Str) (m : Nat) : Prop := (w ∈ binOps ∧ m + 1 = opLev w) ∨ (w = "not" ∧ m = 2) ∨ (w = "neg" ∧ m = 6) ∨ (w ∈ (["num", "truth", "name", "call"] : List Str) ∧ m = 7)
theorem range8 : (List.range (Int.toNat 8)).map (fun k : Nat => DV.int k) = [.int 0, .int 1, .int 2, .int 3, .int 4, .int 5, .int 6, .int 7] := rfl
end W1
namespace W1
open PySem PySem.Spec PyProof.Rows L2 TL DL
theorem nn_not : dget (dmerge [] [(Sum.inr (Str.ofString "not"), DV.str (Str.ofString "not ")), (Sum.inr (Str.ofString "neg"), DV.str (Str.ofString "-"))] : List (Key × DV)) (Sum.inr (Str.ofString "not")) = some (.str (Str.ofString "not ")) := rfl
theorem nn_neg : dget (dmerge [] [(Sum.inr (Str.ofString "not"), DV.str (Str.ofString "not ")), (Sum.inr (Str.ofString "neg"), DV.str (Str.ofString "-"))] : List (Key × DV)) (Sum.inr (Str.ofString "neg")) = some (.str (Str.ofString "-")) := rfl
end W1
namespace W1
open PySem PySem.Spec PyProof.Rows L2 TL DL
theorem par_ok1 {Q : DVK} {O : Own} {m l : Nat} {s : Str} (hs : (tl s).length ≤ 1000000) (k : Q (.str (paren (m + 1 ≥ l + 1) s)) O) : if (l : Int) ≤ (m : Int) then Q (.str s) O else (tl (Str.ofString "(")).length + (tl s).length ≤ sizeLine ∧ (tl (Str.ofString "(" ++ s)).length + (tl (Str.ofString ")")).length ≤ sizeLine ∧ Q (.str (Str.ofString "(" ++ s ++ Str.ofString ")")) O := by
  have e1 : (tl (Str.ofString "(")).length = 1 := rfl
  have e2 : (tl (Str.ofString ")")).length = 1 := rfl
  unfold paren at k
  refine ite_c (fun q => ?_) (fun q => ⟨line_of (by omega), line_of (by rw [app_len]; omega), ?_⟩)
  · rw [if_pos (by omega)] at k; exact k
  · rw [if_neg (by omega)] at k; exact k
end W1
namespace W1
open PySem PySem.Spec PyProof.Rows L2 TL DL
theorem lcW_filt {ow : Bool} {b : DV → DSt → Option DSt} {tt : DTT} {te : DTE} {S : DSt} {Q : DVK} {O : Own} (p : Nat → Bool) : ∀ (ks : List Nat) (acc : List DV),
    (∀ k ∈ ks, ∀ K : Bool → Own → Prop, K (p k) O → onSome (b (.int (k : Int)) S) fun S2 => tt S2 O K) → (∀ k ∈ ks, ∀ K : DVK, K (.int (k : Int)) O → onSome (b (.int (k : Int)) S) fun S2 => te S2 O K) → acc.length + ks.length < 16000000 →
    endLc ow Q (acc ++ (ks.filter p).map fun k : Nat => DV.int k) O → lcW ow b tt te S Q (ks.map fun k : Nat => DV.int k) acc O
  | [], acc, _, _, _, h => by rw [List.filter_nil, List.map_nil, List.append_nil] at h; exact h
  | k :: ks, acc, h1, h2, hl, h => by
    rw [List.length_cons] at hl
    rw [List.map_cons]
    unfold lcW
    have hS2 : ∃ S2, b (.int (k : Int)) S = some S2 := by
      obtain ⟨S2, e, _⟩ := onSome_ex (h1 k List.mem_cons_self (fun _ _ => True) trivial)
      exact ⟨S2, e⟩
    obtain ⟨S2, e⟩ := hS2
    have t1 : ∀ K : Bool → Own → Prop, K (p k) O → tt S2 O K := fun K hK => by
      obtain ⟨S3, e3, h3⟩ := onSome_ex (h1 k List.mem_cons_self K hK)
      rw [e] at e3; cases e3; exact h3
    have t2 : ∀ K : DVK, K (.int (k : Int)) O → te S2 O K := fun K hK => by
      obtain ⟨S3, e3, h3⟩ := onSome_ex (h2 k List.mem_cons_self K hK)
      rw [e] at e3; cases e3; exact h3
    refine onSome_of e (t1 _ ?_)
    cases hp : p k with
    | true =>
      rw [if_pos rfl]
      refine t2 _ ⟨by omega, lcW_filt p ks _ (fun k hk => h1 k (List.mem_cons_of_mem _ hk)) (fun k hk => h2 k (List.mem_cons_of_mem _ hk)) (by rw [List.length_append]; simp; omega) ?_⟩
      rw [List.filter_cons_of_pos hp] at h
      rw [List.append_assoc]; exact h
    | false =>
      rw [if_neg (by decide)]
      refine lcW_filt p ks _ (fun k hk => h1 k (List.mem_cons_of_mem _ hk)) (fun k hk => h2 k (List.mem_cons_of_mem _ hk)) (by omega) ?_
      rw [List.filter_cons_of_neg (by rw [hp]; decide)] at h
      exact h
def levP (w : Str) : Nat → Bool
  | 0 => decide ("or" = w)
  | 1 => decide ("and" = w)
  | 2 => decide ("not" = w)
  | 3 => decide ("=" = w) || (decide ("<>" = w) || (decide ("<" = w) || decide ("<=" = w)))
  | 4 => decide ("+" = w) || decide ("-" = w)
  | 5 => decide ("*" = w) || (decide ("/" = w) || decide ("mod" = w))
  | 6 => decide ("neg" = w)
  | _ => true
theorem levP_at {w : Str} {m : Nat} (h : LevOf w m) : ((List.range 8).filter (levP w))[0]? = some m := by
  have k : ∀ w ∈ binOps, ((List.range 8).filter (levP w))[0]? = some (opLev w - 1) ∧ 1 ≤ opLev w := by decide +kernel
  have k2 : ∀ w ∈ (["num", "truth", "name", "call"] : List Str), ((List.range 8).filter (levP w))[0]? = some 7 := by decide +kernel
  rcases h with ⟨h1, h2⟩ | ⟨rfl, rfl⟩ | ⟨rfl, rfl⟩ | ⟨h1, rfl⟩
  · obtain ⟨a, b⟩ := k w h1
    rw [a]; congr 1; omega
  · decide +kernel
  · decide +kernel
  · exact k2 w h1
end W1

set_option Elab.async false
set_option linter.all false
set_option maxRecDepth 100000
namespace W1
open PySem PySem.Spec PyProof.Rows L2 TL DL
/-! ### rows, as trees -/
inductive Rw where
  | lt (new : Bool) (n : Str) (e : Ex) | one (w : Str) (e : Option Ex) | iff (t : Ex) (a b : List Rw) | whl (t : Ex) (a : List Rw)
def encO : Option Ex → DV
  | none => .non
  | some e => enc e
mutual
def encR : Rw → DV
  | .lt new n e => .tup [.str (if new then "let" else "set"), .non, .str n, enc e]
  | .one w e => .tup [.str w, .non, encO e]
  | .iff t a b => .tup [.str "if", .non, enc t, .tup (encRs a), .tup (encRs b)]
  | .whl t a => .tup [.str "while", .non, enc t, .tup (encRs a)]
def encRs : List Rw → List DV
  | [] => []
  | r :: rs => encR r :: encRs rs
end
def oneTx (w : Str) (ahead : Str) : Option Ex → Str
  | none => ahead ++ w
  | some e => ahead ++ w ++ " " ++ tx e 1
mutual
def rowTx : Rw → Str → List Str
  | .lt new n e, ahead => [if new then ahead ++ "let " ++ n ++ " = " ++ tx e 1 else ahead ++ n ++ " = " ++ tx e 1]
  | .one w e, ahead => [oneTx w ahead e]
  | .iff t a b, ahead => [ahead ++ "if" ++ " " ++ tx t 1] ++ blkTx a (ahead ++ "  ") ++ (match b with | [] => [] | r :: rs => (ahead ++ "else") :: (rowTx r (ahead ++ "  ") ++ blkTx rs (ahead ++ "  "))) ++ [ahead ++ "end"]
  | .whl t a, ahead => [ahead ++ "while" ++ " " ++ tx t 1] ++ blkTx a (ahead ++ "  ") ++ [ahead ++ "end"]
def blkTx : List Rw → Str → List Str
  | [], _ => []
  | r :: rs, ahead => rowTx r ahead ++ blkTx rs ahead
end
/-- the depth of what is drawn, not to be looked through -/
def sixP : { n : Nat // n ≤ 6 ∧ n = 3 } := ⟨3, by decide, rfl⟩
@[irreducible] def sixO : { n : Nat // n ≤ 6 ∧ n = 3 } := sixP
def six : Nat := sixO.1
theorem six_le : six ≤ 6 := sixO.2.1
theorem six_eq : six = 3 := sixO.2.2
mutual
/-- well made rows, nested below d -/
def WFR : Nat → Rw → Prop
  | 0, _ => False
  | d + 1, .lt _ n e => (tl n).length ≤ 10 ∧ WF six e
  | d + 1, .one w none => w = "give"
  | d + 1, .one w (some e) => w ∈ (["give", "say", "do"] : List Str) ∧ WF six e
  | d + 1, .iff t a b => WF six t ∧ a.length ≤ 5 ∧ b.length ≤ 5 ∧ WFRs d a ∧ WFRs d b
  | d + 1, .whl t a => WF six t ∧ a.length ≤ 5 ∧ WFRs d a
def WFRs : Nat → List Rw → Prop
  | _, [] => True
  | d, r :: rs => WFR d r ∧ WFRs d rs
end
/-- how many texts a row of a depth may be -/
def cntR : Nat → Nat
  | 0 => 1
  | d + 1 => 10 * cntR d + 3
theorem encRs_length : ∀ as : List Rw, (encRs as).length = as.length
  | [] => by simp [encRs]
  | a :: as => by simp [encRs, encRs_length as]
theorem encRs_map : ∀ as : List Rw, encRs as = as.map encR
  | [] => by simp [encRs]
  | a :: as => by simp [encRs, encRs_map as]
theorem wfrs_mem {d : Nat} : ∀ {as : List Rw}, WFRs d as → ∀ e ∈ as, WFR d e
  | [], _, e, h => by cases h
  | a :: as, h, e, he => by
    simp only [WFRs] at h
    rcases List.mem_cons.mp he with rfl | he
    · exact h.1
    · exact wfrs_mem h.2 e he
/-- WF only grows -/
theorem WF_up : ∀ (d : Nat) (e : Ex), WF d e → WF (d + 1) e := by
  have key : ∀ (d : Nat), (∀ e, WF d e → WF (d + 1) e) := by
    intro d
    induction d with
    | zero => intro e h; simp [WF] at h
    | succ d ih =>
      have ihL : ∀ as : List Ex, WFL d as → WFL (d + 1) as := by
        intro as
        induction as with
        | nil => intro _; simp [WFL]
        | cons a as ih2 => intro h; simp only [WFL] at h ⊢; exact ⟨ih a h.1, ih2 h.2⟩
      intro e h
      cases e with
      | num n => simp only [WF] at h ⊢; exact h
      | truth b => simp only [WF]
      | name f n => simp only [WF] at h ⊢; exact h
      | call f n as => simp only [WF] at h ⊢; exact ⟨h.1, h.2.1, h.2.2.1, ihL as h.2.2.2⟩
      | un neg a => simp only [WF] at h ⊢; exact ih a h
      | bin op a b => simp only [WF] at h ⊢; exact ⟨h.1, ih a h.2.1, ih b h.2.2⟩
  exact key
end W1
namespace W1
open PySem PySem.Spec PyProof.Rows L2 TL DL
mutual
theorem rowTx_len : ∀ (r : Rw) (d : Nat) (a : Str), WFR d r → (rowTx r a).length ≤ cntR d
  | r, 0, a, h => by simp [WFR] at h
  | .lt new n e, d + 1, a, h => by simp [rowTx, cntR]
  | .one w e, d + 1, a, h => by simp [rowTx, cntR]
  | .iff t x [], d + 1, a, h => by
    simp only [WFR] at h
    have i1 := blkTx_len x d (a ++ "  ") h.2.2.2.1
    have : x.length * cntR d ≤ 5 * cntR d := Nat.mul_le_mul_right _ h.2.1
    simp only [rowTx, cntR, List.length_append, List.length_cons, List.length_nil]
    omega
  | .iff t x (y :: ys), d + 1, a, h => by
    simp only [WFR, WFRs] at h
    have i1 := blkTx_len x d (a ++ "  ") h.2.2.2.1
    have i2 := rowTx_len y d (a ++ "  ") h.2.2.2.2.1
    have i3 := blkTx_len ys d (a ++ "  ") h.2.2.2.2.2
    have : x.length * cntR d ≤ 5 * cntR d := Nat.mul_le_mul_right _ h.2.1
    have h5 : ys.length ≤ 4 := by have := h.2.2.1; simp at this; omega
    have : ys.length * cntR d ≤ 4 * cntR d := Nat.mul_le_mul_right _ h5
    simp only [rowTx, cntR, List.length_append, List.length_cons, List.length_nil]
    omega
  | .whl t x, d + 1, a, h => by
    simp only [WFR] at h
    have i1 := blkTx_len x d (a ++ "  ") h.2.2
    have : x.length * cntR d ≤ 5 * cntR d := Nat.mul_le_mul_right _ h.2.1
    simp only [rowTx, cntR, List.length_append, List.length_cons, List.length_nil]
    omega
theorem blkTx_len : ∀ (rs : List Rw) (d : Nat) (a : Str), WFRs d rs → (blkTx rs a).length ≤ rs.length * cntR d
  | [], d, a, h => by simp [blkTx]
  | r :: rs, d, a, h => by
    simp only [WFRs] at h
    have i1 := rowTx_len r d a h.1
    have i2 := blkTx_len rs d a h.2
    simp only [blkTx, List.length_append, List.length_cons, Nat.add_mul, Nat.one_mul]
    omega
end
end W1

namespace W1
open PySem PySem.Spec PyProof.Rows L2 TL DL
theorem isNon_enc (e : Ex) : DL.isNon (enc e) = false := by cases e <;> simp only [enc] <;> rfl
/-- signs that there are -/
def Cps (x : Str) : Prop := x.cps.all (· < 0x110000) = true
theorem cps_of {x : Str} (h : ∀ c ∈ tl x, c < 0x110000) : Cps x := by
  unfold Cps
  rw [← Array.all_toList, List.all_eq_true]
  exact fun c hc => decide_eq_true (h c hc)
mutual
def PE : Ex → Prop
  | .num _ => True
  | .truth _ => True
  | .name f n => Cps f ∧ Cps n
  | .call f n as => Cps f ∧ Cps n ∧ PEL as
  | .un _ a => PE a
  | .bin _ a b => PE a ∧ PE b
def PEL : List Ex → Prop
  | [] => True
  | e :: es => PE e ∧ PEL es
end
mutual
def PR : Rw → Prop
  | .lt _ n e => Cps n ∧ PE e
  | .one _ none => True
  | .one _ (some e) => PE e
  | .iff t a b => PE t ∧ PRs a ∧ PRs b
  | .whl t a => PE t ∧ PRs a
def PRs : List Rw → Prop
  | [] => True
  | r :: rs => PR r ∧ PRs rs
end
theorem PureS.mono {n m : Nat} {d : DV} (h : PureS n d) : n ≤ m → PureS m d := by
  induction h generalizing m with
  | non => intro _; exact .non
  | bl b => intro _; exact .bl b
  | int b => intro _; exact .int b
  | str x hx => intro _; exact .str x hx
  | @tup n xs _ ih =>
    intro hm
    cases m with
    | zero => omega
    | succ m => exact .tup fun x hx => ih x hx (by omega)
  | @lst n xs _ ih =>
    intro hm
    cases m with
    | zero => omega
    | succ m => exact .lst fun x hx => ih x hx (by omega)
theorem cps_lit : Cps "num" ∧ Cps "truth" ∧ Cps "name" ∧ Cps "call" ∧ Cps "neg" ∧ Cps "not" ∧ Cps "let" ∧ Cps "set" ∧ Cps "if" ∧ Cps "while" ∧ Cps "" ∧ Cps "yes" ∧ Cps "give" ∧ Cps "say" ∧ Cps "do" := by
  unfold Cps; decide +kernel
theorem cps_op {op : Str} (h : op ∈ binOps) : Cps op := by
  have k : ∀ op ∈ binOps, op.cps.all (· < 0x110000) = true := by decide +kernel
  exact k op h
mutual
theorem pure_enc : ∀ (e : Ex) (d : Nat), WF d e → PE e → PureS (2 * d) (enc e)
  | e, 0, h, _ => by simp [WF] at h
  | .num n, d + 1, h, hp => by
    simp only [enc]
    refine .tup (n := 2 * d + 1) fun x hx => ?_
    simp only [List.mem_cons, List.not_mem_nil, or_false] at hx
    rcases hx with rfl | rfl | rfl
    · exact .str _ cps_lit.1
    · exact .non
    · exact .int _
  | .truth b, d + 1, h, hp => by
    simp only [enc]
    refine .tup (n := 2 * d + 1) fun x hx => ?_
    simp only [List.mem_cons, List.not_mem_nil, or_false] at hx
    rcases hx with rfl | rfl | rfl
    · exact .str _ cps_lit.2.1
    · exact .non
    · exact .bl _
  | .name f m, d + 1, h, hp => by
    simp only [PE] at hp
    simp only [enc]
    refine .tup (n := 2 * d + 1) fun x hx => ?_
    simp only [List.mem_cons, List.not_mem_nil, or_false] at hx
    rcases hx with rfl | rfl | rfl | rfl
    · exact .str _ cps_lit.2.2.1
    · exact .non
    · exact .str _ hp.1
    · exact .str _ hp.2
  | .call f m as, d + 1, h, hp => by
    simp only [PE] at hp
    simp only [WF] at h
    simp only [enc]
    refine .tup (n := 2 * d + 1) fun x hx => ?_
    simp only [List.mem_cons, List.not_mem_nil, or_false] at hx
    rcases hx with rfl | rfl | rfl | rfl | rfl
    · exact .str _ cps_lit.2.2.2.1
    · exact .non
    · exact .str _ hp.1
    · exact .str _ hp.2.1
    · exact .tup (n := 2 * d) (pure_encL as d h.2.2.2 hp.2.2)
  | .un neg a, d + 1, h, hp => by
    simp only [PE] at hp
    simp only [WF] at h
    simp only [enc]
    refine .tup (n := 2 * d + 1) fun x hx => ?_
    simp only [List.mem_cons, List.not_mem_nil, or_false] at hx
    rcases hx with rfl | rfl | rfl
    · cases neg
      · exact .str _ cps_lit.2.2.2.2.2.1
      · exact .str _ cps_lit.2.2.2.2.1
    · exact .non
    · exact (pure_enc a d h hp).mono (by omega)
  | .bin op a b, d + 1, h, hp => by
    simp only [PE] at hp
    simp only [WF] at h
    simp only [enc]
    refine .tup (n := 2 * d + 1) fun x hx => ?_
    simp only [List.mem_cons, List.not_mem_nil, or_false] at hx
    rcases hx with rfl | rfl | rfl | rfl
    · exact .str _ (cps_op h.1)
    · exact .non
    · exact (pure_enc a d h.2.1 hp.1).mono (by omega)
    · exact (pure_enc b d h.2.2 hp.2).mono (by omega)
theorem pure_encL : ∀ (as : List Ex) (d : Nat), WFL d as → PEL as → ∀ x ∈ encL as, PureS (2 * d) x
  | [], d, h, _ => by simp [encL]
  | a :: as, d, h, hp => by
    simp only [WFL] at h
    simp only [PEL] at hp
    intro x hx
    simp only [encL, List.mem_cons] at hx
    rcases hx with rfl | hx
    · exact pure_enc a d h.1 hp.1
    · exact pure_encL as d h.2 hp.2 x hx
end
theorem pure_six {e : Ex} {m : Nat} (h : WF six e) (hp : PE e) (hm : 12 ≤ m) : PureS m (enc e) := (pure_enc e six h hp).mono (by have := six_eq; omega)
mutual
theorem pure_encR : ∀ (r : Rw) (d : Nat), WFR d r → PR r → PureS (2 * d + 14) (encR r)
  | r, 0, h, _ => by simp [WFR] at h
  | .lt new m e, d + 1, h, hp => by
    simp only [PR] at hp
    simp only [WFR] at h
    simp only [encR]
    refine .tup (n := 2 * d + 15) fun x hx => ?_
    simp only [List.mem_cons, List.not_mem_nil, or_false] at hx
    rcases hx with rfl | rfl | rfl | rfl
    · cases new
      · exact .str _ cps_lit.2.2.2.2.2.2.2.1
      · exact .str _ cps_lit.2.2.2.2.2.2.1
    · exact .non
    · exact .str _ hp.1
    · exact pure_six h.2 hp.2 (by omega)
  | .one w none, d + 1, h, hp => by
    simp only [WFR] at h
    subst h
    simp only [encR, encO]
    refine .tup (n := 2 * d + 15) fun x hx => ?_
    simp only [List.mem_cons, List.not_mem_nil, or_false] at hx
    rcases hx with rfl | rfl | rfl
    · exact .str _ cps_lit.2.2.2.2.2.2.2.2.2.2.2.2.1
    · exact .non
    · exact .non
  | .one w (some e), d + 1, h, hp => by
    simp only [WFR] at h
    simp only [PR] at hp
    simp only [encR, encO]
    refine .tup (n := 2 * d + 15) fun x hx => ?_
    simp only [List.mem_cons, List.not_mem_nil, or_false] at hx
    rcases hx with rfl | rfl | rfl
    · have k : ∀ w ∈ (["give", "say", "do"] : List Str), w.cps.all (· < 0x110000) = true := by decide +kernel
      exact .str _ (k w h.1)
    · exact .non
    · exact pure_six h.2 hp (by omega)
  | .iff t a b, d + 1, h, hp => by
    simp only [WFR] at h
    simp only [PR] at hp
    simp only [encR]
    refine .tup (n := 2 * d + 15) fun x hx => ?_
    simp only [List.mem_cons, List.not_mem_nil, or_false] at hx
    rcases hx with rfl | rfl | rfl | rfl | rfl
    · exact .str _ cps_lit.2.2.2.2.2.2.2.2.1
    · exact .non
    · exact pure_six h.1 hp.1 (by omega)
    · exact .tup (n := 2 * d + 14) (pure_encRs a d h.2.2.2.1 hp.2.1)
    · exact .tup (n := 2 * d + 14) (pure_encRs b d h.2.2.2.2 hp.2.2)
  | .whl t a, d + 1, h, hp => by
    simp only [WFR] at h
    simp only [PR] at hp
    simp only [encR]
    refine .tup (n := 2 * d + 15) fun x hx => ?_
    simp only [List.mem_cons, List.not_mem_nil, or_false] at hx
    rcases hx with rfl | rfl | rfl | rfl
    · exact .str _ cps_lit.2.2.2.2.2.2.2.2.2.1
    · exact .non
    · exact pure_six h.1 hp.1 (by omega)
    · exact .tup (n := 2 * d + 14) (pure_encRs a d h.2.2 hp.2)
theorem pure_encRs : ∀ (rs : List Rw) (d : Nat), WFRs d rs → PRs rs → ∀ x ∈ encRs rs, PureS (2 * d + 14) x
  | [], d, h, _ => by simp [encRs]
  | a :: as, d, h, hp => by
    simp only [WFRs] at h
    simp only [PRs] at hp
    intro x hx
    simp only [encRs, List.mem_cons] at hx
    rcases hx with rfl | hx
    · exact pure_encR a d h.1 hp.1
    · exact pure_encRs as d h.2 hp.2 x hx
end
end W1

namespace W1
open PySem PySem.Spec PyProof.Rows L2 TL DL
mutual
/-- how many rows -/
def cR : Rw → Nat
  | .lt _ _ _ => 1
  | .one _ _ => 1
  | .iff _ a b => 1 + cRs a + cRs b
  | .whl _ a => 1 + cRs a
def cRs : List Rw → Nat
  | [] => 0
  | r :: rs => cR r + cRs rs
end
mutual
theorem rowTx_cnt : ∀ (r : Rw) (a : Str), (rowTx r a).length ≤ 3 * cR r
  | .lt new n e, a => by simp [rowTx, cR]
  | .one w e, a => by simp [rowTx, cR]
  | .iff t x [], a => by
    have i1 := blkTx_cnt x (a ++ "  ")
    simp only [rowTx, cR, cRs, List.length_append, List.length_cons, List.length_nil]
    omega
  | .iff t x (y :: ys), a => by
    have i1 := blkTx_cnt x (a ++ "  ")
    have i2 := rowTx_cnt y (a ++ "  ")
    have i3 := blkTx_cnt ys (a ++ "  ")
    simp only [rowTx, cR, cRs, List.length_append, List.length_cons, List.length_nil]
    omega
  | .whl t x, a => by
    have i1 := blkTx_cnt x (a ++ "  ")
    simp only [rowTx, cR, List.length_append, List.length_cons, List.length_nil]
    omega
theorem blkTx_cnt : ∀ (rs : List Rw) (a : Str), (blkTx rs a).length ≤ 3 * cRs rs
  | [], a => by simp [blkTx]
  | r :: rs, a => by
    have i1 := rowTx_cnt r a
    have i2 := blkTx_cnt rs a
    simp only [blkTx, cRs, List.length_append]
    omega
end
theorem room3 : room six = 1050 := by rw [six_eq]; decide
theorem tx_six {e : Ex} {l : Nat} (h : WF six e) : (tl (tx e l)).length ≤ 1050 := by have := tx_len e six l h; rw [room3] at this; exact this
theorem lenl : (tl (Str.ofString "let ")).length = 4 ∧ (tl (Str.ofString " = ")).length = 3 ∧ (tl (Str.ofString " ")).length = 1 ∧ (tl (Str.ofString "if")).length = 2 ∧ (tl (Str.ofString "while")).length = 5 ∧ (tl (Str.ofString "else")).length = 4 ∧ (tl (Str.ofString "end")).length = 3 ∧ (tl (Str.ofString "give")).length = 4 ∧ (tl (Str.ofString "  ")).length = 2 := ⟨rfl, rfl, rfl, rfl, rfl, rfl, rfl, rfl, rfl⟩
mutual
theorem rowTx_each : ∀ (r : Rw) (d : Nat) (a : Str), WFR d r → ∀ s ∈ rowTx r a, (tl s).length ≤ (tl a).length + 2 * d + 1080
  | r, 0, a, h => by simp [WFR] at h
  | .lt new n e, d + 1, a, h => by
    intro s hs
    simp only [WFR] at h
    have := tx_six (l := 1) h.2
    simp only [rowTx, List.mem_singleton] at hs
    subst hs
    obtain ⟨l1, l2, l3, _⟩ := lenl
    cases new <;> simp only [Bool.false_eq_true, if_true, if_false, app_len] <;> omega
  | .one w none, d + 1, a, h => by
    intro s hs
    simp only [WFR] at h
    subst h
    simp only [rowTx, oneTx, List.mem_singleton] at hs
    subst hs
    obtain ⟨l1, l2, l3, l4, l5, l6, l7, l8, l9⟩ := lenl
    rw [app_len]; omega
  | .one w (some e), d + 1, a, h => by
    intro s hs
    simp only [WFR] at h
    have := tx_six (l := 1) h.2
    have k : ∀ w ∈ (["give", "say", "do"] : List Str), (tl w).length ≤ 4 := by decide +kernel
    have := k w h.1
    simp only [rowTx, oneTx, List.mem_singleton] at hs
    subst hs
    obtain ⟨l1, l2, l3, l4, l5, l6, l7, l8, l9⟩ := lenl
    simp only [app_len]; omega
  | .iff t x [], d + 1, a, h => by
    intro s hs
    simp only [WFR] at h
    have := tx_six (l := 1) h.1
    obtain ⟨l1, l2, l3, l4, l5, l6, l7, l8, l9⟩ := lenl
    simp only [rowTx, List.append_nil, List.mem_append, List.mem_cons, List.not_mem_nil, or_false] at hs
    rcases hs with (rfl | hs) | rfl
    · simp only [app_len]; omega
    · have := blkTx_each x d (a ++ "  ") h.2.2.2.1 s hs
      rw [app_len] at this; omega
    · rw [app_len]; omega
  | .iff t x (y :: ys), d + 1, a, h => by
    intro s hs
    simp only [WFR, WFRs] at h
    have := tx_six (l := 1) h.1
    obtain ⟨l1, l2, l3, l4, l5, l6, l7, l8, l9⟩ := lenl
    simp only [rowTx, List.mem_append, List.mem_cons, List.not_mem_nil, or_false] at hs
    rcases hs with ((rfl | hs) | rfl | hs | hs) | rfl
    · simp only [app_len]; omega
    · have := blkTx_each x d (a ++ "  ") h.2.2.2.1 s hs
      rw [app_len] at this; omega
    · rw [app_len]; omega
    · have := rowTx_each y d (a ++ "  ") h.2.2.2.2.1 s hs
      rw [app_len] at this; omega
    · have := blkTx_each ys d (a ++ "  ") h.2.2.2.2.2 s hs
      rw [app_len] at this; omega
    · rw [app_len]; omega
  | .whl t x, d + 1, a, h => by
    intro s hs
    simp only [WFR] at h
    have := tx_six (l := 1) h.1
    obtain ⟨l1, l2, l3, l4, l5, l6, l7, l8, l9⟩ := lenl
    simp only [rowTx, List.mem_append, List.mem_singleton] at hs
    rcases hs with (rfl | hs) | rfl
    · simp only [app_len]; omega
    · have := blkTx_each x d (a ++ "  ") h.2.2 s hs
      rw [app_len] at this; omega
    · rw [app_len]; omega
theorem blkTx_each : ∀ (rs : List Rw) (d : Nat) (a : Str), WFRs d rs → ∀ s ∈ blkTx rs a, (tl s).length ≤ (tl a).length + 2 * d + 1080
  | [], d, a, h => by simp [blkTx]
  | r :: rs, d, a, h => by
    intro s hs
    simp only [WFRs] at h
    simp only [blkTx, List.mem_append] at hs
    rcases hs with hs | hs
    · exact rowTx_each r d a h.1 s hs
    · exact blkTx_each rs d a h.2 s hs
end
/-! ### what a file tells -/
inductive Td where
  | val (w : Str) (out : Bool) (n : Str) (e : Ex) | dfn (out : Bool) (n : Str) (ps : List (Str × Str)) (kd : Str) (rs : List Rw)
def encP (p : Str × Str) : DV := .tup [.non, .str p.1, .str p.2]
def encT : Td → DV
  | .val w out n e => .tup [.str w, .non, .bl out, .str n, enc e]
  | .dfn out n ps kd rs => .tup [.str "def", .non, .bl out, .str n, .tup (ps.map encP), .str kd, .tup (encRs rs), .non]
def WFT : Td → Prop
  | .val w _ n e => (w = "const" ∨ w = "keep") ∧ (tl n).length ≤ 10 ∧ WF six e
  | .dfn _ n ps kd rs => (tl n).length ≤ 10 ∧ ps.length ≤ 3 ∧ (∀ p ∈ ps, (tl p.1).length ≤ 10 ∧ (tl p.2).length ≤ 3) ∧ (tl kd).length ≤ 3 ∧ WFRs 4 rs ∧ PRs rs ∧ rs.length ≤ 5 ∧ cRs rs ≤ 41
def outT (b : Bool) : Str := if b then "out " else ""
def prT (p : Str × Str) : Str := p.1 ++ " " ++ p.2
def hdT (out : Bool) (n : Str) (ps : List (Str × Str)) (kd : Str) : Str := outT out ++ "def " ++ n ++ "(" ++ Txt.join ", " (ps.map prT) ++ ")" ++ (if kd = "" then ("" : Str) else (" " : Str) ++ kd)
def toldTx : Td → List Str
  | .val w out n e => [outT out ++ w ++ " " ++ n ++ " = " ++ tx e 1]
  | .dfn out n ps kd rs => hdT out n ps kd :: (blkTx rs "  " ++ [("end" : Str)])
def allTx : List Td → List Str
  | [] => []
  | t :: ts => toldTx t ++ allTx ts
def useTx (us : List Str) : List Str := if us = [] then [] else [("use " : Str) ++ Txt.join ", " us]
def fileTx (us : List Str) (ts : List Td) : Str := Txt.join "\n" (useTx us ++ allTx ts)
theorem lenl2 : (tl (Str.ofString "out ")).length = 4 ∧ (tl (Str.ofString "")).length = 0 ∧ (tl (Str.ofString "def ")).length = 4 ∧ (tl (Str.ofString "(")).length = 1 ∧ (tl (Str.ofString ")")).length = 1 ∧ (tl (Str.ofString ", ")).length = 2 ∧ (tl (Str.ofString "const")).length = 5 ∧ (tl (Str.ofString "keep")).length = 4 := ⟨rfl, rfl, rfl, rfl, rfl, rfl, rfl, rfl⟩
theorem outT_len {b : Bool} : (tl (outT b)).length ≤ 4 := by cases b <;> decide
theorem prT_join {ps : List (Str × Str)} (h : ps.length ≤ 3) (h2 : ∀ p ∈ ps, (tl p.1).length ≤ 10 ∧ (tl p.2).length ≤ 3) : (tl (Txt.join (Str.ofString ", ") (ps.map prT))).length ≤ 60 ∧ ((ps.map prT).map fun s => (tl s).length).sum ≤ 42 := by
  obtain ⟨l1, l2, l3, l4, l5, l6, l7, l8⟩ := lenl2
  have e : ∀ s ∈ ps.map prT, (tl s).length ≤ 14 := by
    intro s hs
    obtain ⟨p, hp, rfl⟩ := List.mem_map.mp hs
    have := h2 p hp
    have := lenl.2.2.1
    unfold prT
    simp only [app_len]; omega
  have hj := join_len (sep := Str.ofString ", ") e
  have hs := sum_len_le e
  rw [List.length_map] at hj hs
  rw [l6] at hj
  omega
theorem hdT_len {out : Bool} {n : Str} {ps : List (Str × Str)} {kd : Str} (h0 : (tl n).length ≤ 10) (h : ps.length ≤ 3) (h2 : ∀ p ∈ ps, (tl p.1).length ≤ 10 ∧ (tl p.2).length ≤ 3) (h3 : (tl kd).length ≤ 3) : (tl (hdT out n ps kd)).length ≤ 100 := by
  obtain ⟨l1, l2, l3, l4, l5, l6, l7, l8⟩ := lenl2
  have := (prT_join h h2).1
  have := outT_len (b := out)
  have := lenl.2.2.1
  unfold hdT
  split <;> simp only [app_len] <;> omega
theorem toldTx_cnt {t : Td} (h : WFT t) : (toldTx t).length ≤ 125 := by
  cases t with
  | val w out n e => simp [toldTx]
  | dfn out n ps kd rs =>
    simp only [WFT] at h
    have := blkTx_cnt rs "  "
    simp only [toldTx, List.length_cons, List.length_append, List.length_nil]
    omega
theorem toldTx_each {t : Td} (h : WFT t) : ∀ s ∈ toldTx t, (tl s).length ≤ 1100 := by
  obtain ⟨l1, l2, l3, l4, l5, l6, l7, l8⟩ := lenl2
  obtain ⟨k1, k2, k3, k4, k5, k6, k7, k8, k9⟩ := lenl
  cases t with
  | val w out n e =>
    simp only [WFT] at h
    intro s hs
    simp only [toldTx, List.mem_singleton] at hs
    subst hs
    have := tx_six (l := 1) h.2.2
    have := outT_len (b := out)
    have hw : (tl w).length ≤ 5 := by rcases h.1 with rfl | rfl <;> decide
    simp only [app_len]; omega
  | dfn out n ps kd rs =>
    simp only [WFT] at h
    obtain ⟨h1, h2, h3, h4, h5, _⟩ := h
    intro s hs
    simp only [toldTx, List.mem_cons, List.mem_append, List.mem_singleton, List.not_mem_nil, or_false] at hs
    rcases hs with rfl | hs | rfl
    · have := hdT_len (out := out) h1 h2 h3 h4; omega
    · have := blkTx_each rs 4 "  " h5 s hs; omega
    · omega
theorem allTx_cnt : ∀ {ts : List Td}, (∀ t ∈ ts, WFT t) → (allTx ts).length ≤ 125 * ts.length
  | [], _ => by simp [allTx]
  | t :: ts, h => by
    have i1 := toldTx_cnt (h t List.mem_cons_self)
    have i2 := allTx_cnt fun t ht => h t (List.mem_cons_of_mem _ ht)
    simp only [allTx, List.length_append, List.length_cons]; omega
theorem allTx_each : ∀ {ts : List Td}, (∀ t ∈ ts, WFT t) → ∀ s ∈ allTx ts, (tl s).length ≤ 1100
  | [], _ => by simp [allTx]
  | t :: ts, h => by
    intro s hs
    simp only [allTx, List.mem_append] at hs
    rcases hs with hs | hs
    · exact toldTx_each (h t List.mem_cons_self) s hs
    · exact allTx_each (fun t ht => h t (List.mem_cons_of_mem _ ht)) s hs
end W1

set_option Elab.async false
set_option linter.all false
set_option maxRecDepth 100000
namespace W1
open PySem PySem.Spec PyProof.Rows L2 TL DL
/-! ### what is drawn -/
theorem nodup_sub_len {α : Type} [DecidableEq α] : ∀ {l m : List α}, l.Nodup → (∀ x ∈ l, x ∈ m) → l.length ≤ m.length
  | [], m, _, _ => Nat.zero_le _
  | x :: l, m, nd, h => by
    have hx := h x List.mem_cons_self
    obtain ⟨h1, h2⟩ := List.nodup_cons.mp nd
    have := nodup_sub_len (l := l) (m := m.erase x) h2 fun y hy => (List.mem_erase_of_ne (by rintro rfl; exact h1 hy)).mpr (h y (List.mem_cons_of_mem _ hy))
    rw [List.length_erase_of_mem hx] at this
    have := List.length_pos_of_mem hx
    rw [List.length_cons]; omega
abbrev cB : List Nat := tl (Str.ofString "bfhjpqrtvxz")
abbrev cV : List Nat := tl (Str.ofString "abdefilmnostuwy")
/-- what is tried where a name is used -/
def candL (k : Nat) : List Nat := [cB.getD (k % 11) 0, cV.getD (k / 11 % 15) 0]
def cand (k : Nat) : Str := ofL (candL k)
theorem candL_nd : ((List.range 165).map candL).Nodup := by decide +kernel
theorem cand_len {us : List Str} {k : Nat} (hk : k ≤ 165) (h : ∀ j < k, cand j ∈ us) : k ≤ us.length := by
  have e : List.range k = (List.range 165).take k := by rw [List.take_range, Nat.min_eq_left hk]
  have nd : ((List.range k).map candL).Nodup := by
    rw [e, List.map_take]
    exact (List.take_sublist _ _).nodup candL_nd
  have := nodup_sub_len (l := (List.range k).map candL) (m := us.map tl) nd fun x hx => by
    obtain ⟨j, hj, rfl⟩ := List.mem_map.mp hx
    exact List.mem_map.mpr ⟨cand j, h j (List.mem_range.mp hj), rfl⟩
  simpa using this
theorem cand_name (k : Nat) : IsName (cand k) := by
  refine ⟨cB.getD (k % 11) 0, [cV.getD (k / 11 % 15) 0], rfl, ?_, ?_, Nat.le_succ 1⟩
  · have h : k % 11 < 11 := Nat.mod_lt _ (by decide)
    have : ∀ j < 11, cB.getD j 0 ∈ tl (Str.ofString "bfhjpqrtvxz") := by decide +kernel
    exact this _ h
  · intro x hx
    simp only [List.mem_singleton] at hx
    subst hx
    have h : k / 11 % 15 < 15 := Nat.mod_lt _ (by decide)
    have : ∀ j < 15, cV.getD j 0 ∈ tl (Str.ofString "abdefilmnostuwy") := by decide +kernel
    exact this _ h
theorem cand_b (m : Nat) : atI (tl (Str.ofString "bfhjpqrtvxz")) ((m : Int) % 11) = some (cB.getD (m % 11) 0) := by
  have h : m % 11 < 11 := Nat.mod_lt _ (by decide)
  have k : ∀ j < 11, (tl (Str.ofString "bfhjpqrtvxz"))[j]? = some (cB.getD j 0) := by decide +kernel
  rw [show ((m : Int) % 11) = ((m % 11 : Nat) : Int) by omega, atI_nat_, k _ h]
theorem cand_v (m : Nat) : atI (tl (Str.ofString "abdefilmnostuwy")) ((m : Int) / 11 % 15) = some (cV.getD (m / 11 % 15) 0) := by
  have h : m / 11 % 15 < 15 := Nat.mod_lt _ (by decide)
  have k : ∀ j < 15, (tl (Str.ofString "abdefilmnostuwy"))[j]? = some (cV.getD j 0) := by decide +kernel
  rw [show ((m : Int) / 11 % 15) = ((m / 11 % 15 : Nat) : Int) by omega, atI_nat_, k _ h]
theorem rep_one {x : Str} : repS x 1 = x := by
  apply ext_tl
  show (List.replicate 1 (tl x)).flatten = tl x
  simp
theorem isName_len {w : Str} (h : IsName w) : (tl w).length ≤ 3 := by
  obtain ⟨c, l, e, _, _, hl⟩ := h
  rw [e, List.length_cons]; omega
theorem isName_cps {w : Str} (h : IsName w) : Cps w := by
  obtain ⟨c, l, e, h1, h2, hl⟩ := h
  refine cps_of fun x hx => ?_
  rw [e] at hx
  have k1 : ∀ x ∈ tl (Str.ofString "bfhjpqrtvxz"), x < 0x110000 := by decide +kernel
  have k2 : ∀ x ∈ tl (Str.ofString "abdefilmnostuwy"), x < 0x110000 := by decide +kernel
  rcases List.mem_cons.mp hx with rfl | hx
  · exact k1 _ h1
  · exact k2 _ (h2 x hx)
theorem inD_strs {w : Str} : ∀ {us : List Str}, inD (.str w) (us.map DV.str) = decide (w ∈ us)
  | [] => by simp [inD]
  | u :: us => by
    have := inD_strs (w := w) (us := us)
    unfold inD at this ⊢
    rw [List.map_cons, List.any_cons, this]
    have e : eqF (.str u) (.str w) = decide (u = w) := rfl
    rw [e]
    by_cases h : u = w
    · subst h; simp
    · have h2 : ¬ w = u := fun q => h q.symm
      simp [h, h2]
theorem flat_strs : ∀ {us : List Str}, (us.map DV.str).all flatD = true
  | [] => rfl
  | u :: us => by
    have := flat_strs (us := us)
    rw [List.map_cons, List.all_cons, this]; rfl
def FN (f : Str) : Prop := f = "" ∨ IsName f
def KN (k : Str) : Prop := k = "num" ∨ k = "yes"
theorem FN.len {f : Str} (h : FN f) : (tl f).length ≤ 3 := by
  rcases h with rfl | h
  · decide
  · exact isName_len h
theorem FN.cps {f : Str} (h : FN f) : Cps f := by
  rcases h with rfl | h
  · exact cps_lit.2.2.2.2.2.2.2.2.2.2.1
  · exact isName_cps h
theorem KN.cps {f : Str} (h : KN f) : Cps f := by
  rcases h with rfl | rfl
  · exact cps_lit.1
  · exact cps_lit.2.2.2.2.2.2.2.2.2.2.2.1
abbrev Nm := Str × Str × Str
abbrev Df := Str × Str × List Str × Str
def encN (x : Nm) : DV := .tup [.str x.1, .str x.2.1, .str x.2.2]
def encDf (x : Df) : DV := .tup [.str x.1, .str x.2.1, .tup (x.2.2.1.map DV.str), .str x.2.2.2]
def OkN (x : Nm) : Prop := KN x.1 ∧ FN x.2.1 ∧ IsName x.2.2
def OkD (x : Df) : Prop := FN x.1 ∧ IsName x.2.1 ∧ x.2.2.1.length ≤ 3 ∧ (∀ k ∈ x.2.2.1, KN k) ∧ (KN x.2.2.2 ∨ x.2.2.2 = "")
def Sgs (sg : List Str) : Prop := sg = ([Str.ofString "+", Str.ofString "-"] : List Str) ∨ sg = ([Str.ofString "+", Str.ofString "-", Str.ofString "*", Str.ofString "/", Str.ofString "mod"] : List Str)
structure CtxE (kvs : List (Key × DV)) (ns : List Nm) (ds : List Df) (sg : List Str) : Prop where
  n : dget kvs (Sum.inr (Str.ofString "names")) = some (.lst (ns.map encN))
  d : dget kvs (Sum.inr (Str.ofString "defs")) = some (.lst (ds.map encDf))
  s : dget kvs (Sum.inr (Str.ofString "signs")) = some (.lst (sg.map DV.str))
  on : ∀ x ∈ ns, OkN x
  od : ∀ x ∈ ds, OkD x
  ln : ns.length ≤ 1000
  ld : ds.length ≤ 1000
  os : Sgs sg
theorem pure_str3 {n : Nat} {xs : List DV} (h : ∀ x ∈ xs, ∃ s, x = .str s ∧ Cps s) : PureS (n + 1) (.tup xs) := .tup fun x hx => by
  obtain ⟨s, rfl, hs⟩ := h x hx
  exact .str _ hs
theorem pure_encN {x : Nm} (h : OkN x) : PureS 1 (encN x) := by
  refine .tup (n := 0) fun y hy => ?_
  simp only [List.mem_cons, List.not_mem_nil, or_false] at hy
  rcases hy with rfl | rfl | rfl
  · exact .str _ h.1.cps
  · exact .str _ h.2.1.cps
  · exact .str _ (isName_cps h.2.2)
theorem pure_encDf {x : Df} (h : OkD x) : PureS 2 (encDf x) := by
  obtain ⟨h1, h2, h3, h4, h5⟩ := h
  refine .tup (n := 1) fun y hy => ?_
  simp only [List.mem_cons, List.not_mem_nil, or_false] at hy
  rcases hy with rfl | rfl | rfl | rfl
  · exact .str _ h1.cps
  · exact .str _ (isName_cps h2)
  · refine .tup (n := 0) fun z hz => ?_
    obtain ⟨k, hk, rfl⟩ := List.mem_map.mp hz
    exact .str _ (h4 k hk).cps
  · rcases h5 with h5 | h5
    · exact .str _ h5.cps
    · rw [h5]; exact .str _ cps_lit.2.2.2.2.2.2.2.2.2.2.1
/-- a list beside the empty one -/
theorem lst_nil {neg : Bool} {n : Nat} {xs : List DV} {O : Own} {Q : DVK} (h : ∀ x ∈ xs, PureS n x) (hn : n ≤ 60) (k : Q (.bl (if neg then !decide (xs = []) else decide (xs = []))) O) : dEqP neg (.lst xs) (.lst []) O Q := by
  obtain ⟨p, e, h1, h2⟩ := pure_py (PureS.lst (n := n) h)
  unfold dEqP
  refine onSome_of e (onSome_of (x := .list []) rfl ⟨shaped_of h1 h2 (by omega), rfl, ?_⟩)
  have e2 : PyData.eqv p (.list []) = decide (xs = []) := by
    cases xs with
    | nil => simp only [toPy, toPys] at e; cases e; rfl
    | cons x xs =>
      simp only [toPy, toPys] at e
      cases e3 : toPy x with
      | none => rw [e3] at e; cases e
      | some q =>
        cases e4 : toPys xs with
        | none => rw [e3, e4] at e; cases e
        | some qs => rw [e3, e4] at e; cases e; rfl
  rw [e2]
  exact k
theorem WF_mono {e : Ex} {n m : Nat} (h : WF n e) (hm : n ≤ m) : WF m e := by
  induction hm with
  | refl => exact h
  | step hm ih => exact WF_up _ _ ih
theorem sgs_bin {sg : List Str} (h : Sgs sg) : (∀ s ∈ sg, s ∈ binOps) ∧ 0 < sg.length ∧ sg.length ≤ 5 ∧ (∀ s ∈ sg, s ∈ (["+", "-", "*", "/", "mod"] : List Str)) := by
  rcases h with rfl | rfl <;> decide +kernel
theorem wfl_app {n : Nat} : ∀ {as bs : List Ex}, WFL n as → WFL n bs → WFL n (as ++ bs)
  | [], bs, _, h => h
  | a :: as, bs, h, h2 => by
    simp only [WFL, List.cons_append] at h ⊢
    exact ⟨h.1, wfl_app h.2 h2⟩
theorem pel_app : ∀ {as bs : List Ex}, PEL as → PEL bs → PEL (as ++ bs)
  | [], bs, _, h => h
  | a :: as, bs, h, h2 => by
    simp only [PEL, List.cons_append] at h ⊢
    exact ⟨h.1, pel_app h.2 h2⟩
theorem wfl_mono {n m : Nat} : ∀ {as : List Ex}, WFL n as → n ≤ m → WFL m as
  | [], _, _ => by simp [WFL]
  | a :: as, h, hm => by
    simp only [WFL] at h ⊢
    exact ⟨WF_mono h.1 hm, wfl_mono h.2 hm⟩
/-- how many rows may be drawn where so many are left -/
def Tn : Nat → Nat
  | 0 => 0
  | n + 1 => 1 + 3 * Tn n
theorem Tn_mono {n m : Nat} (h : n ≤ m) : Tn n ≤ Tn m := by
  induction h with
  | refl => exact Nat.le_refl _
  | step h ih => simp only [Tn]; omega
def encS (x : Str × Str) : DV := .tup [.str x.1, .str x.2]
def BKv (nv kv lv uv dv sv gv : DV) : List (Key × DV) := [(Sum.inr (Str.ofString "names"), nv), (Sum.inr (Str.ofString "kind"), kv), (Sum.inr (Str.ofString "left"), lv), (Sum.inr (Str.ofString "used"), uv), (Sum.inr (Str.ofString "defs"), dv), (Sum.inr (Str.ofString "sets"), sv), (Sum.inr (Str.ofString "signs"), gv)]
section
variable {nv kv lv uv dv sv gv v v2 : DV}
theorem bk_names : dget (BKv nv kv lv uv dv sv gv) (Sum.inr (Str.ofString "names")) = some nv := rfl
theorem bk_kind : dget (BKv nv kv lv uv dv sv gv) (Sum.inr (Str.ofString "kind")) = some kv := rfl
theorem bk_left : dget (BKv nv kv lv uv dv sv gv) (Sum.inr (Str.ofString "left")) = some lv := rfl
theorem bk_used : dget (BKv nv kv lv uv dv sv gv) (Sum.inr (Str.ofString "used")) = some uv := rfl
theorem bk_defs : dget (BKv nv kv lv uv dv sv gv) (Sum.inr (Str.ofString "defs")) = some dv := rfl
theorem bk_sets : dget (BKv nv kv lv uv dv sv gv) (Sum.inr (Str.ofString "sets")) = some sv := rfl
theorem bk_signs : dget (BKv nv kv lv uv dv sv gv) (Sum.inr (Str.ofString "signs")) = some gv := rfl
theorem bk_pnames : dput (BKv nv kv lv uv dv sv gv) (Sum.inr (Str.ofString "names")) v = BKv v kv lv uv dv sv gv := rfl
theorem bk_pleft : dput (BKv nv kv lv uv dv sv gv) (Sum.inr (Str.ofString "left")) v = BKv nv kv v uv dv sv gv := rfl
theorem bk_psets : dput (BKv nv kv lv uv dv sv gv) (Sum.inr (Str.ofString "sets")) v = BKv nv kv lv uv dv v gv := rfl
theorem bk_upd : dmerge (BKv nv kv lv uv dv sv gv) (dmerge [] [(Sum.inr (Str.ofString "names"), v), (Sum.inr (Str.ofString "sets"), v2)]) = BKv v kv lv uv dv v2 gv := rfl
theorem bk_len : (BKv nv kv lv uv dv sv gv).length = 7 := rfl
theorem bk_len2 : (dmerge [] [(Sum.inr (Str.ofString "names"), v), (Sum.inr (Str.ofString "sets"), v2)] : List (Key × DV)).length = 2 := rfl
end
structure BOk (ns : List Nm) (kd : Str) (dfs : List Df) (ss : List (Str × Str)) (sg : List Str) (us : List Str) : Prop where
  on : ∀ x ∈ ns, OkN x
  od : ∀ x ∈ dfs, OkD x
  os : ∀ x ∈ ss, KN x.1 ∧ IsName x.2
  ln : ns.length ≤ us.length + 500
  ls : ss.length ≤ us.length + 500
  ld : dfs.length ≤ 500
  sg : Sgs sg
  kd : KN kd ∨ kd = ""
theorem BOk.more {ns : List Nm} {kd : Str} {dfs : List Df} {ss : List (Str × Str)} {sg us us' : List Str} (h : BOk ns kd dfs ss sg us) (hl : us.length ≤ us'.length) : BOk ns kd dfs ss sg us' :=
  ⟨h.on, h.od, h.os, by have := h.ln; omega, by have := h.ls; omega, h.ld, h.sg, h.kd⟩
structure BSt (O : Own) (a c u : Addr) (dc : Cell) (ns : List Nm) (kd : Str) (l : Int) (dfs : List Df) (ss : List (Str × Str)) (sg : List Str) (us : List Str) : Prop where
  ac : a ≠ c
  au : a ≠ u
  cu : c ≠ u
  ha : O a = some dc
  hd : Dice dc
  hc : O c = some (.dK (BKv (.lst (ns.map encN)) (.str kd) (.int l) (.ref u) (.lst (dfs.map encDf)) (.lst (ss.map encS)) (.lst (sg.map DV.str))))
  hu : O u = some (.lst (us.map DV.str))
  ok : BOk ns kd dfs ss sg us
section
variable {O O' : Own} {a c u : Addr} {dc dc' : Cell} {ns : List Nm} {kd : Str} {l : Int} {dfs : List Df} {ss : List (Str × Str)} {sg us : List Str}
theorem BSt.dice (h : BSt O a c u dc ns kd l dfs ss sg us) (hd : Dice dc') : BSt (oset O a dc') a c u dc' ns kd l dfs ss sg us :=
  ⟨h.ac, h.au, h.cu, oset_same, hd, by rw [oset_ne (Ne.symm h.ac)]; exact h.hc, by rw [oset_ne (Ne.symm h.au)]; exact h.hu, h.ok⟩
theorem BSt.used (h : BSt O a c u dc ns kd l dfs ss sg us) (us' : List Str) (hl : us.length ≤ us'.length) : BSt (oset O u (.lst (us'.map DV.str))) a c u dc ns kd l dfs ss sg us' :=
  ⟨h.ac, h.au, h.cu, by rw [oset_ne h.au]; exact h.ha, h.hd, by rw [oset_ne h.cu]; exact h.hc, oset_same, h.ok.more hl⟩
theorem BSt.ctx (h : BSt O a c u dc ns kd l dfs ss sg us) {ns' : List Nm} {l' : Int} {ss' : List (Str × Str)} (hk : BOk ns' kd dfs ss' sg us) :
    BSt (oset O c (.dK (BKv (.lst (ns'.map encN)) (.str kd) (.int l') (.ref u) (.lst (dfs.map encDf)) (.lst (ss'.map encS)) (.lst (sg.map DV.str))))) a c u dc ns' kd l' dfs ss' sg us :=
  ⟨h.ac, h.au, h.cu, by rw [oset_ne h.ac]; exact h.ha, h.hd, oset_same, by rw [oset_ne (Ne.symm h.cu)]; exact h.hu, hk⟩
theorem BSt.garb (h : BSt O a c u dc ns kd l dfs ss sg us) {p : Addr} {x : Cell} (hp : O p = none) : BSt (oset O p x) a c u dc ns kd l dfs ss sg us :=
  ⟨h.ac, h.au, h.cu, by rw [oset_ne (ne_of h.ha hp)]; exact h.ha, h.hd, by rw [oset_ne (ne_of h.hc hp)]; exact h.hc, by rw [oset_ne (ne_of h.hu hp)]; exact h.hu, h.ok⟩
theorem BSt.e (h : BSt O a c u dc ns kd l dfs ss sg us) (hl : us.length ≤ 150) : CtxE (BKv (.lst (ns.map encN)) (.str kd) (.int l) (.ref u) (.lst (dfs.map encDf)) (.lst (ss.map encS)) (.lst (sg.map DV.str))) ns dfs sg :=
  ⟨rfl, rfl, rfl, h.ok.on, h.ok.od, by have := h.ok.ln; omega, by have := h.ok.ld; omega, h.ok.sg⟩
end
theorem wf_six {e : Ex} (h : WF (2 + 1) e) : WF six e := by rw [six_eq]; exact h
theorem pure_encS {x : Str × Str} (h : KN x.1 ∧ IsName x.2) : PureS 1 (encS x) := by
  refine .tup (n := 0) fun y hy => ?_
  simp only [List.mem_cons, List.not_mem_nil, or_false] at hy
  rcases hy with rfl | rfl
  · exact .str _ h.1.cps
  · exact .str _ (isName_cps h.2)
theorem wfrs_app {n : Nat} : ∀ {as bs : List Rw}, WFRs n as → WFRs n bs → WFRs n (as ++ bs)
  | [], bs, _, h => h
  | a :: as, bs, h, h2 => by
    simp only [WFRs, List.cons_append] at h ⊢
    exact ⟨h.1, wfrs_app h.2 h2⟩
theorem prs_app : ∀ {as bs : List Rw}, PRs as → PRs bs → PRs (as ++ bs)
  | [], bs, _, h => h
  | a :: as, bs, h, h2 => by
    simp only [PRs, List.cons_append] at h ⊢
    exact ⟨h.1, prs_app h.2 h2⟩
theorem cRs_app : ∀ {as bs : List Rw}, cRs (as ++ bs) = cRs as + cRs bs
  | [], bs => by simp [cRs]
  | a :: as, bs => by
    simp only [cRs, List.cons_append]
    rw [cRs_app]; omega
theorem cR_pos : ∀ r : Rw, 1 ≤ cR r
  | .lt _ _ _ => by simp [cR]
  | .one _ _ => by simp [cR]
  | .iff _ _ _ => by simp only [cR]; omega
  | .whl _ _ => by simp only [cR]; omega
theorem cRs_ge : ∀ rs : List Rw, rs.length ≤ cRs rs
  | [] => by simp [cRs]
  | r :: rs => by
    have := cRs_ge rs
    have := cR_pos r
    simp only [cRs, List.length_cons]; omega
end W1

set_option Elab.async false
set_option linter.all false
set_option maxRecDepth 100000
namespace W1
open PySem PySem.Spec PyProof.Rows L2 TL DL
/-! ### files, drawn -/
/-- what is planned to be told -/
structure Pl where
  w : Str
  out : Bool
  n : Str
  ps : List (Str × Str)
  kd : Str
/-- what may be named -/
structure At where
  w : Str
  f : Str
  n : Str
  ps : List (Str × Str)
  kd : Str
def encPl (p : Pl) : DV := .tup [.str p.w, .non, .bl p.out, .str p.n, .tup (p.ps.map encP), .str p.kd]
def encAt (p : At) : DV := .tup [.str p.w, .str p.f, .str p.n, .tup (p.ps.map encP), .str p.kd]
def OkP (ps : List (Str × Str)) : Prop := ps.length ≤ 3 ∧ ∀ q ∈ ps, IsName q.1 ∧ KN q.2
def KdW (w kd : Str) : Prop := ((w = "const" ∨ w = "keep") ∧ KN kd) ∨ (w = "def" ∧ (KN kd ∨ kd = ""))
def OkPl (p : Pl) : Prop := IsName p.n ∧ OkP p.ps ∧ KdW p.w p.kd
def OkAt (p : At) : Prop := FN p.f ∧ IsName p.n ∧ OkP p.ps ∧ KdW p.w p.kd
theorem KdW.kn {w kd : Str} (h : KdW w kd) (hw : w ≠ "def") : KN kd := by
  rcases h with ⟨_, h⟩ | ⟨h, _⟩
  · exact h
  · exact absurd h hw
theorem KdW.any {w kd : Str} (h : KdW w kd) : KN kd ∨ kd = "" := by
  rcases h with ⟨_, h⟩ | ⟨_, h⟩
  · exact .inl h
  · exact h
theorem OkP.le {ps : List (Str × Str)} (h : OkP ps) : ∀ p ∈ ps, (tl p.1).length ≤ 10 ∧ (tl p.2).length ≤ 3 := fun p hp => by
  obtain ⟨h1, h2⟩ := h.2 p hp
  refine ⟨by have := isName_len h1; omega, ?_⟩
  rcases h2 with h2 | h2 <;> rw [h2] <;> decide
def toN (x : At) : Nm := (x.kd, x.f, x.n)
def toDf (x : At) : Df := (x.f, x.n, x.ps.map (·.2), x.kd)
def toS (x : At) : Str × Str := (x.kd, x.n)
def pN (q : Str × Str) : Nm := (q.2, Str.ofString "", q.1)
def pS (q : Str × Str) : Str × Str := (q.2, q.1)
theorem okN_at {x : At} (h : OkAt x) (hw : x.w ≠ "def") : OkN (toN x) := ⟨h.2.2.2.kn hw, h.1, h.2.1⟩
theorem okD_at {x : At} (h : OkAt x) : OkD (toDf x) := ⟨h.1, h.2.1, by rw [show (toDf x).2.2.1 = x.ps.map (·.2) from rfl, List.length_map]; exact h.2.2.1.1, fun k hk => by
  obtain ⟨q, hq, rfl⟩ := List.mem_map.mp hk
  exact (h.2.2.1.2 q hq).2, h.2.2.2.any⟩
theorem okN_p {q : Str × Str} (h : IsName q.1 ∧ KN q.2) : OkN (pN q) := ⟨h.2, .inl rfl, h.1⟩
def CKv (nv dv sv : DV) : List (Key × DV) := [(Sum.inr (Str.ofString "names"), nv), (Sum.inr (Str.ofString "defs"), dv), (Sum.inr (Str.ofString "signs"), sv)]
def CKv0 (nv dv : DV) : List (Key × DV) := [(Sum.inr (Str.ofString "names"), nv), (Sum.inr (Str.ofString "defs"), dv)]
def B4v (nv kv lv uv : DV) : List (Key × DV) := [(Sum.inr (Str.ofString "names"), nv), (Sum.inr (Str.ofString "kind"), kv), (Sum.inr (Str.ofString "left"), lv), (Sum.inr (Str.ofString "used"), uv)]
def B5v (nv kv lv uv dv : DV) : List (Key × DV) := B4v nv kv lv uv ++ [(Sum.inr (Str.ofString "defs"), dv)]
def B6v (nv kv lv uv dv sv : DV) : List (Key × DV) := B5v nv kv lv uv dv ++ [(Sum.inr (Str.ofString "sets"), sv)]
section
variable {nv kv lv uv dv sv gv v v2 : DV}
theorem ck_disp : dmerge [] [(Sum.inr (Str.ofString "names"), nv), (Sum.inr (Str.ofString "defs"), dv)] = CKv0 nv dv := rfl
theorem ck_psigns : dput (CKv0 nv dv) (Sum.inr (Str.ofString "signs")) v = CKv nv dv v := rfl
theorem ck_names : dget (CKv nv dv sv) (Sum.inr (Str.ofString "names")) = some nv := rfl
theorem ck_defs : dget (CKv nv dv sv) (Sum.inr (Str.ofString "defs")) = some dv := rfl
theorem ck_signs : dget (CKv nv dv sv) (Sum.inr (Str.ofString "signs")) = some sv := rfl
theorem ck_pnames : dput (CKv nv dv sv) (Sum.inr (Str.ofString "names")) v = CKv v dv sv := rfl
theorem ck_len0 : (CKv0 nv dv).length = 2 := rfl
theorem ck_len : (CKv nv dv sv).length = 3 := rfl
theorem b4_disp : dmerge [] [(Sum.inr (Str.ofString "names"), nv), (Sum.inr (Str.ofString "kind"), kv), (Sum.inr (Str.ofString "left"), lv), (Sum.inr (Str.ofString "used"), uv)] = B4v nv kv lv uv := rfl
theorem b4_put : dput (B4v nv kv lv uv) (Sum.inr (Str.ofString "defs")) v = B5v nv kv lv uv v := rfl
theorem b5_put : dput (B5v nv kv lv uv dv) (Sum.inr (Str.ofString "sets")) v = B6v nv kv lv uv dv v := rfl
theorem b6_sets : dget (B6v nv kv lv uv dv sv) (Sum.inr (Str.ofString "sets")) = some sv := rfl
theorem b6_upd : dmerge (B6v nv kv lv uv dv sv) (dmerge [] [(Sum.inr (Str.ofString "sets"), v), (Sum.inr (Str.ofString "signs"), v2)]) = BKv nv kv lv uv dv v v2 := rfl
theorem b4_len : (B4v nv kv lv uv).length = 4 := rfl
theorem b5_len : (B5v nv kv lv uv dv).length = 5 := rfl
theorem b6_len : (B6v nv kv lv uv dv sv).length = 6 := rfl
theorem b6_len2 : (dmerge [] [(Sum.inr (Str.ofString "sets"), v), (Sum.inr (Str.ofString "signs"), v2)] : List (Key × DV)).length = 2 := rfl
end
theorem cutD_two {a b : DV} {r : List DV} : DL.cutD (a :: b :: r) none (some 2) = [a, b] := by
  unfold DL.cutD
  have e1 : HT.sIx (a :: b :: r).length 0 none = 0 := rfl
  have e2 : HT.sIx (a :: b :: r).length (a :: b :: r).length (some 2) = 2 := by
    have : HT.sIx (a :: b :: r).length (a :: b :: r).length (some 2) = min 2 (r.length + 1 + 1) := rfl
    rw [this]; omega
  rw [e1, e2]; rfl
def encD0 (x : At) : DV := .tup [.str x.f, .str x.n, .tup (x.ps.map encP), .str x.kd]
theorem keep_at {O : Own} {p : Addr} {X : Cell} (hp : O p = none) {x : Addr} {c : Cell} (h : O x = some c) : oset O p X x = some c := by rw [oset_ne (ne_of h hp)]; exact h
theorem sgs5 : Sgs [Str.ofString "+", Str.ofString "-", Str.ofString "*", Str.ofString "/", Str.ofString "mod"] := .inr rfl
theorem sgs2 : Sgs [Str.ofString "+", Str.ofString "-"] := .inl rfl
theorem tn4 : Tn (Int.toNat 4) = 40 := rfl
theorem rep1 {α : Type} {xs : List α} : (List.replicate (Int.toNat 1) xs).flatten = xs := by
  show (List.replicate 1 xs).flatten = xs
  simp
theorem rep0 {α : Type} {xs : List α} : (List.replicate (Int.toNat 0) xs).flatten = [] := rfl
theorem callsp_gen {sp : DSp} {ds : List DV} {O : Own} {Q : DVK} {E : DXK} (P : Own → Prop) (h : P O) (k : ∀ O', P O' → callsp sp ds O' Q E) : callsp sp ds O Q E := k O h
theorem put3 {O : Own} {p q x : Addr} {X Y Z c : Cell} (hq : oset O p X q = none) (hx : x ≠ p) (h : O x = some c) : oset (oset (oset O p X) q Y) p Z x = some c := by
  rw [oset_ne hx]; exact keep_at hq (by rw [oset_ne hx]; exact h)
theorem Fr.trans2 {O O3 O4 : Own} {as bs : List Addr} (h : Fr O O3 as) (h2 : Fr O3 O4 (as ++ bs)) (hb : ∀ b ∈ bs, O b = none) : Fr O O4 as := fun b hbn ho => by
  have e := h b hbn ho
  rw [h2 b (fun q => ?_) (by rw [e]; exact ho), e]
  rcases List.mem_append.mp q with q | q
  · exact hbn q
  · exact ho (hb b q)
/-! ### the house -/
def encU (u : Str) : DV := .tup [.non, .str u]
def encFl (e : Str × List Str × List Td) : Key × DV := (Sum.inr e.1, .tup [.tup (e.2.1.map encU), .tup (e.2.2.map encT)])
def encFa (e : Str × List At) : Key × DV := (Sum.inr e.1, .lst (e.2.map encAt))
def OkF (e : Str × List Str × List Td) : Prop := e.2.1.length ≤ 3 ∧ (∀ u ∈ e.2.1, IsName u) ∧ e.2.2.length ≤ 4 ∧ ∀ t ∈ e.2.2, WFT t
def OkA (e : Str × List At) : Prop := e.2.length ≤ 4 ∧ ∀ t ∈ e.2, OkAt t
structure HSt (O : Own) (a pF pA pL : Addr) (dc : Cell) (es : List (Str × List Str × List Td)) (fa : List (Str × List At)) (fs : List Str) : Prop where
  aF : a ≠ pF
  aA : a ≠ pA
  aL : a ≠ pL
  FA : pF ≠ pA
  FL : pF ≠ pL
  AL : pA ≠ pL
  ha : O a = some dc
  hd : Dice dc
  hF : O pF = some (.dK (es.map encFl))
  hA : O pA = some (.dK (fa.map encFa))
  hL : O pL = some (.lst (fs.map DV.str))
section
variable {O O' : Own} {a pF pA pL : Addr} {dc dc' : Cell} {es es' : List (Str × List Str × List Td)} {fa fa' : List (Str × List At)} {fs fs' : List Str}
theorem HSt.dice (h : HSt O a pF pA pL dc es fa fs) (hd : Dice dc') : HSt (oset O a dc') a pF pA pL dc' es fa fs :=
  ⟨h.aF, h.aA, h.aL, h.FA, h.FL, h.AL, oset_same, hd, by rw [oset_ne (Ne.symm h.aF)]; exact h.hF, by rw [oset_ne (Ne.symm h.aA)]; exact h.hA, by rw [oset_ne (Ne.symm h.aL)]; exact h.hL⟩
theorem HSt.sets (h : HSt O a pF pA pL dc es fa fs) {x : Addr} {X : Cell} (hx : x ∉ [a, pF, pA, pL]) : HSt (oset O x X) a pF pA pL dc es fa fs := by
  simp only [List.mem_cons, List.not_mem_nil, or_false, not_or] at hx
  obtain ⟨h1, h2, h3, h4⟩ := hx
  exact ⟨h.aF, h.aA, h.aL, h.FA, h.FL, h.AL, by rw [oset_ne (Ne.symm h1)]; exact h.ha, h.hd, by rw [oset_ne (Ne.symm h2)]; exact h.hF, by rw [oset_ne (Ne.symm h3)]; exact h.hA, by rw [oset_ne (Ne.symm h4)]; exact h.hL⟩
theorem HSt.dels (h : HSt O a pF pA pL dc es fa fs) {x : Addr} (hx : x ∉ [a, pF, pA, pL]) : HSt (odel O x) a pF pA pL dc es fa fs := by
  simp only [List.mem_cons, List.not_mem_nil, or_false, not_or] at hx
  obtain ⟨h1, h2, h3, h4⟩ := hx
  exact ⟨h.aF, h.aA, h.aL, h.FA, h.FL, h.AL, by rw [odel_ne (Ne.symm h1)]; exact h.ha, h.hd, by rw [odel_ne (Ne.symm h2)]; exact h.hF, by rw [odel_ne (Ne.symm h3)]; exact h.hA, by rw [odel_ne (Ne.symm h4)]; exact h.hL⟩
theorem HSt.new (h : HSt O a pF pA pL dc es fa fs) {x : Addr} (hx : O x = none) : x ∉ [a, pF, pA, pL] := by
  have h1 := ne_of h.ha hx
  have h2 := ne_of h.hF hx
  have h3 := ne_of h.hA hx
  have h4 := ne_of h.hL hx
  simp [Ne.symm h1, Ne.symm h2, Ne.symm h3, Ne.symm h4]
theorem HSt.files (h : HSt O a pF pA pL dc es fa fs) : HSt (oset O pL (.lst (fs'.map DV.str))) a pF pA pL dc es fa fs' :=
  ⟨h.aF, h.aA, h.aL, h.FA, h.FL, h.AL, by rw [oset_ne h.aL]; exact h.ha, h.hd, by rw [oset_ne h.FL]; exact h.hF, by rw [oset_ne h.AL]; exact h.hA, oset_same⟩
theorem HSt.face (h : HSt O a pF pA pL dc es fa fs) : HSt (oset O pA (.dK (fa'.map encFa))) a pF pA pL dc es fa' fs :=
  ⟨h.aF, h.aA, h.aL, h.FA, h.FL, h.AL, by rw [oset_ne h.aA]; exact h.ha, h.hd, by rw [oset_ne h.FA]; exact h.hF, oset_same, by rw [oset_ne (Ne.symm h.AL)]; exact h.hL⟩
theorem HSt.find (h : HSt O a pF pA pL dc es fa fs) : HSt (oset O pF (.dK (es'.map encFl))) a pF pA pL dc es' fa fs :=
  ⟨h.aF, h.aA, h.aL, h.FA, h.FL, h.AL, by rw [oset_ne h.aF]; exact h.ha, h.hd, oset_same, by rw [oset_ne (Ne.symm h.FA)]; exact h.hA, by rw [oset_ne (Ne.symm h.FL)]; exact h.hL⟩
theorem HSt.fr (h : HSt O a pF pA pL dc es fa fs) (f : Fr O O' [a]) (ha : O' a = some dc') (hd : Dice dc') : HSt O' a pF pA pL dc' es fa fs :=
  ⟨h.aF, h.aA, h.aL, h.FA, h.FL, h.AL, ha, hd, f.at h.hF (by simp [Ne.symm h.aF]), f.at h.hA (by simp [Ne.symm h.aA]), f.at h.hL (by simp [Ne.symm h.aL])⟩
end
theorem dput_new {es : List (Key × DV)} {k : Key} {v : DV} (h : ∀ e ∈ es, e.1 ≠ k) : dput es k v = es ++ [(k, v)] := by
  unfold dput
  have e : es.any (fun kv => decide (kv.1 = k)) = false := by
    rw [List.any_eq_false]
    intro x hx
    simpa using h x hx
  rw [if_neg (by rw [e]; decide)]
theorem dget_fa {f : Str} : ∀ {fa : List (Str × List At)}, f ∈ fa.map (·.1) → ∃ ats, (f, ats) ∈ fa ∧ dget (fa.map encFa) (Sum.inr f) = some (.lst (ats.map encAt))
  | [], h => by cases h
  | (g, ats) :: fa, h => by
    by_cases e : g = f
    · subst e
      refine ⟨ats, List.mem_cons_self, ?_⟩
      unfold dget encFa
      simp
    · have h2 : f ∈ fa.map (·.1) := by
        rcases List.mem_cons.mp h with h | h
        · exact absurd h.symm e
        · exact h
      obtain ⟨b, h3, h4⟩ := dget_fa h2
      refine ⟨b, List.mem_cons_of_mem _ h3, ?_⟩
      unfold dget at h4 ⊢
      rw [List.map_cons, List.find?_cons_of_neg]
      · exact h4
      · simp only [encFa, decide_eq_true_eq]
        intro q; exact e (Sum.inr.inj (of_decide_eq_true q))
theorem cutD_three {a b c : DV} {r : List DV} : DL.cutD (a :: b :: c :: r) (some 3) none = r := by
  unfold DL.cutD
  have e1 : HT.sIx (a :: b :: c :: r).length 0 (some 3) = 3 := by
    have : HT.sIx (a :: b :: c :: r).length 0 (some 3) = min 3 (r.length + 1 + 1 + 1) := rfl
    rw [this]; omega
  have e2 : HT.sIx (a :: b :: c :: r).length (a :: b :: c :: r).length none = (a :: b :: c :: r).length := rfl
  rw [e1, e2]
  show List.take _ r = r
  exact List.take_of_length_le (by simp)
def plA (f : Str) (p : Pl) : At := ⟨p.w, f, p.n, p.ps, p.kd⟩
theorem okA_pl {f : Str} {p : Pl} (hf : FN f) (h : OkPl p) : OkAt (plA f p) := ⟨hf, h.1, h.2.1, h.2.2⟩
theorem dget_fl {f : Str} : ∀ {es : List (Str × List Str × List Td)}, f ∈ es.map (·.1) → ∃ us ts, (f, us, ts) ∈ es ∧ dget (es.map encFl) (Sum.inr f) = some (.tup [.tup (us.map encU), .tup (ts.map encT)])
  | [], h => by cases h
  | (g, us, ts) :: fa, h => by
    by_cases e : g = f
    · subst e
      refine ⟨us, ts, List.mem_cons_self, ?_⟩
      unfold dget encFl
      simp
    · have h2 : f ∈ fa.map (·.1) := by
        rcases List.mem_cons.mp h with h | h
        · exact absurd h.symm e
        · exact h
      obtain ⟨b, c, h3, h4⟩ := dget_fl h2
      refine ⟨b, c, List.mem_cons_of_mem _ h3, ?_⟩
      unfold dget at h4 ⊢
      rw [List.map_cons, List.find?_cons_of_neg]
      · exact h4
      · simp only [encFl, decide_eq_true_eq]
        intro q; exact e (Sum.inr.inj (of_decide_eq_true q))
theorem allTx_app (xs ys : List Td) : allTx (xs ++ ys) = allTx xs ++ allTx ys := by
  induction xs with
  | nil => rfl
  | cons x xs ih => simp only [List.cons_append, allTx, ih, List.append_assoc]
theorem rep_out {b : Bool} : repS (Str.ofString "out ") (if b = true then 1 else 0) = outT b := by
  cases b
  · rfl
  · exact rep_one
theorem hd_eq {o n j k : Str} : o ++ Str.ofString "def" ++ Str.ofString " " ++ n ++ Str.ofString "(" ++ j ++ Str.ofString ")" ++ k = o ++ Str.ofString "def " ++ n ++ Str.ofString "(" ++ j ++ Str.ofString ")" ++ k := by
  apply ext_tl; simp only [tl_append, List.append_assoc, show tl (Str.ofString "def ") = tl (Str.ofString "def") ++ tl (Str.ofString " ") from rfl]
theorem rep_zero {x : Str} : repS x 0 = Str.ofString "" := rfl
end W1

set_option Elab.async false
set_option linter.all false
set_option maxRecDepth 100000
set_option maxHeartbeats 4000000
namespace W1
open PySem PySem.Spec PyProof.Rows L2 TL DL
theorem lit0 : (tl (Str.ofString "wholetongue.writing")).length = 19 := rfl
theorem lit1 : (tl (Str.ofString "  ")).length = 2 := rfl
theorem lit2 : (tl (Str.ofString "law_wholetongue_k06_trees_written_one_way")).length = 41 := rfl
theorem lit3 : (tl (Str.ofString "or")).length = 2 := rfl
theorem lit4 : (tl (Str.ofString "and")).length = 3 := rfl
theorem lit5 : (tl (Str.ofString "not")).length = 3 := rfl
theorem lit6 : (tl (Str.ofString "=")).length = 1 := rfl
theorem lit7 : (tl (Str.ofString "<>")).length = 2 := rfl
theorem lit8 : (tl (Str.ofString "<")).length = 1 := rfl
theorem lit9 : (tl (Str.ofString "<=")).length = 2 := rfl
theorem lit10 : (tl (Str.ofString "+")).length = 1 := rfl
theorem lit11 : (tl (Str.ofString "-")).length = 1 := rfl
theorem lit12 : (tl (Str.ofString "*")).length = 1 := rfl
theorem lit13 : (tl (Str.ofString "/")).length = 1 := rfl
theorem lit14 : (tl (Str.ofString "mod")).length = 3 := rfl
theorem lit15 : (tl (Str.ofString "neg")).length = 3 := rfl
theorem lit16 : (tl (Str.ofString "num")).length = 3 := rfl
theorem lit17 : (tl (Str.ofString "name")).length = 4 := rfl
theorem lit18 : (tl (Str.ofString ")")).length = 1 := rfl
theorem lit19 : (tl (Str.ofString "let")).length = 3 := rfl
theorem lit20 : (tl (Str.ofString "set")).length = 3 := rfl
theorem lit21 : (tl (Str.ofString "out ")).length = 4 := rfl
theorem lit22 : (tl (Str.ofString "")).length = 0 := rfl
theorem lit23 : (tl (Str.ofString "def")).length = 3 := rfl
theorem lit24 : (tl (Str.ofString "bfhjpqrtvxz")).length = 11 := rfl
theorem lit25 : (tl (Str.ofString "yes")).length = 3 := rfl
theorem lit26 : (tl (Str.ofString "say")).length = 3 := rfl
theorem lit27 : (tl (Str.ofString "names")).length = 5 := rfl
theorem lit28 : (tl (Str.ofString "defs")).length = 4 := rfl
theorem lit29 : (tl (Str.ofString "truth")).length = 5 := rfl
theorem lit30 : (tl (Str.ofString "if")).length = 2 := rfl
theorem lit31 : (tl (Str.ofString "while")).length = 5 := rfl
theorem lit32 : (tl (Str.ofString ", ")).length = 2 := rfl
theorem lit33 : (tl (Str.ofString "end")).length = 3 := rfl
theorem lit34 : (tl (Str.ofString "call")).length = 4 := rfl
theorem lit35 : (tl (Str.ofString "sets")).length = 4 := rfl
theorem lit36 : (tl (Str.ofString "left")).length = 4 := rfl
theorem lit37 : (tl (Str.ofString "give")).length = 4 := rfl
theorem lit38 : (tl (Str.ofString "do")).length = 2 := rfl
theorem lit39 : (tl (Str.ofString "signs")).length = 5 := rfl
theorem lit40 : (tl (Str.ofString "no")).length = 2 := rfl
theorem lit41 : (tl (Str.ofString "(")).length = 1 := rfl
theorem lit42 : (tl (Str.ofString ".")).length = 1 := rfl
theorem lit43 : (tl (Str.ofString " ")).length = 1 := rfl
theorem lit44 : (tl (Str.ofString "use ")).length = 4 := rfl
theorem lit45 : (tl (Str.ofString "keep")).length = 4 := rfl
theorem lit46 : (tl (Str.ofString "kind")).length = 4 := rfl
theorem lit47 : (tl (Str.ofString "used")).length = 4 := rfl
theorem lit48 : (tl (Str.ofString " = ")).length = 3 := rfl
theorem lit49 : (tl (Str.ofString "abdefilmnostuwy")).length = 15 := rfl
theorem lit50 : (tl (Str.ofString "not ")).length = 4 := rfl
theorem lit51 : (tl (Str.ofString "let ")).length = 4 := rfl
theorem lit52 : (tl (Str.ofString " =")).length = 2 := rfl
theorem lit53 : (tl (Str.ofString "const")).length = 5 := rfl
theorem lit54 : (tl (Str.ofString "else")).length = 4 := rfl
theorem lit55 : (tl (Str.ofString "def ")).length = 4 := rfl
local macro_rules | `(tactic| walk_at "e1") => `(tactic| simp only [DL.cutD_tail, eq_self, Int.reduceEq, List.nil_append, List.cons_append, DL.ofs_eq, String.reduceEq, DL.inD_cons, DL.inD_nil, Bool.or_false, Bool.or_true, Bool.false_or, Bool.true_or, decide_true, decide_false, not_true_eq_false, not_false_eq_true, DL.dPar, ↓DL.kPar_e1, DL.dPar3, ↓DL.kPar3_e1, DL.dGet1, DL.dGet2, DL.dKGet2, DL.dAsg, DL.dVar, DL.dgName, DL.dgLst, DL.dgSub, List.length_cons, List.length_nil, List.set_cons_zero, List.set_cons_succ, DL.dAnd, DL.dOr, DL.dNot, DL.dTest, DL.dTrue, DL.dOp, DL.dCB, DL.dACons, DL.dANil, DL.dInQ, DL.dIxQ, DL.dAug, DL.dC, DL.dRet, DL.dRetF, DL.dRetN, DL.dSl, DL.dPart, DL.dNoPart, DL.dIf, DL.dIfS, DL.dTup, DL.dLstF, DL.dLstO, DL.dDrop, DL.dNever, DL.dNext, DL.dBreak, DL.dCont, DL.dFor, DL.dILst, DL.dITup, DL.dIStr, DL.dIRng1, DL.dIRng2, DL.dIEnum, DL.dIZip, DL.dBM, DL.dBM0, DL.dCall, DL.dAddO, DL.dMulO, ↓DL.kMulO_e1, DL.dLcO, DL.dAndV, DL.dOrV, DL.dNotV, DL.dNeg, DL.dDix, DL.dDin, DL.dDisp, DL.dDispF, DL.dDNew, DL.dLc, DL.dLc2, DL.bind1, DL.dYes, DL.dFrz, List.map_cons, List.map_nil, List.getElem?_cons_succ, List.getElem?_cons_zero, DL.atI_0, DL.atI_1, DL.atI_2, DL.atI_3, DL.atI_4, DL.atI_5, DL.atI_6, DL.atI_7, DL.ixN_0, DL.ixN_1, DL.ixN_2, DL.ixN_3, DL.oset_same, DL.oset_oset, DL.tl_one, DL.tl_ofL, TL.len_tl, DL.atI_nat_, Bool.false_eq_true, Bool.true_eq_false, Bool.not_false, Bool.not_true, if_true, if_false, decide_eq_true_eq, Bool.not_eq_true', Bool.not_eq_true, decide_eq_false_iff_not, Option.isSome_some, Option.isSome_none, List.all_cons, List.all_nil, Bool.and_self, Bool.true_and, Bool.and_true, ↓reduceIte, and_true, true_and, Nat.zero_add, Nat.reduceAdd, Nat.reduceLeDiff, ↓DL.onSome_e1, ↓DL.onL_e1, ↓DL.lstQ_e1, ↓DL.lstQ_e2, ↓DL.seqQ_e1, ↓DL.seqQ_e2, ↓DL.seqQ_e3, ↓DL.seqQ_e4, ↓DL.seqQ_e5, ↓DL.sqlQ_e1, ↓DL.sqlQ_e2, ↓DL.sqlQ_e3, ↓DL.onK_e1, ↓DL.onT_e1, ↓DL.dkQ_e1, ↓DL.dkQ_e2, ↓DL.dtQ_e1, ↓DL.dtQ_e2, ↓DL.findQ_e1, ↓DL.findQ_e2, ↓DL.findQ_e3, ↓DL.dAdd_e1, ↓DL.dAdd_e2, ↓DL.dAdd_e3, ↓DL.dAdd_e4, ↓DL.dAdd_e5, ↓DL.dAdd_e6, ↓DL.dAdd_e7, ↓DL.dI2_e1, ↓DL.dSub_e1, ↓DL.dCmpI_e1, ↓DL.dEq_e1, ↓DL.dEq_e2, ↓DL.dEq_e3, ↓DL.dEq_e4, ↓DL.dEq_e5, ↓DL.dEq_e6, ↓DL.dEq_e7, ↓DL.dEq_e8, ↓DL.dEq_e9, ↓DL.dEq_e10, ↓DL.dEq_e11, ↓DL.dEq_e12, ↓DL.dEq_e13, ↓DL.dEq_e14, ↓DL.dEq_e15, ↓DL.dIsN_e1, DL.isNon_e1, ↓DL.dInS_e1, ↓DL.dIn_e1, ↓DL.dIn_e2, ↓DL.dIn_e3, ↓DL.dIn_e4, ↓DL.dIn_e5, ↓DL.dIn_e6, ↓DL.dInK_e1, ↓DL.dIx_e1, ↓DL.dIx_e2, ↓DL.dIx_e3, ↓DL.dIx_e4, ↓DL.dIx_e5, ↓DL.dIx_e6, ↓DL.kBl_e1, ↓DL.kInt_e1, ↓DL.kTru_e1, ↓DL.kTru_e2, ↓DL.kTru_e3, ↓DL.kTru_e4, ↓DL.kTru_e5, ↓DL.kTru_e6, ↓DL.kTru_e7, ↓DL.kTru_e8, ↓DL.kTru_e9, ↓DL.kRef_e1, ↓DL.kLst_e1, ↓DL.kLst_e2, ↓DL.kTup_e1, ↓DL.kTup_e2, ↓DL.kStr_e1, ↓DL.kRng1_e1, ↓DL.kRng2_e1, ↓DL.kEnum_e1, ↓DL.kEnum_e2, ↓DL.kZip_e1, ↓DL.frzC_e1, ↓DL.frzC_e2, ↓DL.frzC_e3, ↓DL.dSlR_e1, ↓DL.dSlR_e2, ↓DL.dSlR_e3, ↓DL.dSlR_e4, ↓DL.dSlR_e5, ↓DL.dLen_e1, ↓DL.dLen_e2, ↓DL.dLen_e3, ↓DL.dLen_e4, ↓DL.dLen_e5, ↓DL.dLen_e6, ↓DL.dInt_e1, ↓DL.dInt_e2, ↓DL.dInt_e3, ↓DL.dStrI_e1, ↓DL.dIsi_e1, DL.tyName_e1, DL.tyName_e2, DL.tyName_e3, DL.tyName_e4, DL.tyName_e5, DL.tyName_e6, DL.tyName_e7, DL.tyName_e8, DL.tyName_e9, DL.tyName_e10, ↓DL.dApp_e1, ↓DL.dJoin_e1, ↓DL.dSplit_e1, ↓DL.dgNil_e1, ↓DL.dgCons_e1, ↓DL.dgTup_e1, ↓DL.dSetL_e1, ↓DL.dSetD_e1, ↓DL.dSetD_e2, ↓DL.dSetD_e3, ↓DL.dIAdd_e1, ↓DL.dIAdd_e2, ↓DL.dISub_e1, ↓DL.apart_e1, ↓DL.dUpd_e1, ↓DL.dMulS_e1, ↓DL.dInL_e1, ↓DL.endLc_e1, ↓DL.endLc_e2, DL.bindN_e1, DL.setAll_e1, DL.setAll_e2, DL.mTy_e1, DL.mTy_e2, DL.mTy_e3, DL.mTy_e4, DL.strsOf_e1, DL.strsOf_e2, DL.keyD_e1, DL.keyD_e2, DL.keysD_e1, DL.keysD_e2, ↓DL.forW_e1, ↓DL.forW_e2, ↓DL.lcW_e1, ↓DL.lcW_e2, ↓DL.lcG_e1, ↓DL.lcG_e2, ↓DL.lc2W_e1, ↓DL.lc2W_e2, ↓DL.dPairs_e1, ↓DL.dPairs_e2, DL.kvsOf_e1, DL.kvsOf_e2, DL.slot_e1, DL.slot_e2, DL.dwipe_e1, DL.dwipe_e2, DL.enumD_e1, DL.enumD_e2, DL.zipD_e1, DL.dstart_e1, DL.dstart_e2, DL.dstart_e3, DL.flatD_e1, DL.flatD_e2, DL.flatD_e3, DL.flatD_e4, DL.eqF_e1, DL.eqF_e2, DL.eqF_e3, DL.eqF_e4, DL.eqF_e5, DL.eqF_e6, ↓DL.dTupOf_e1, ↓DL.dTupOf_e2, ↓DL.dTupOf_e3, ↓DL.dListOf_e1, ↓DL.dMin2_e1, ↓DL.dExt_e1, ↓DL.dMulL_e1, ↓DL.dIsD_e1, ↓DL.dIsD_e2, ↓DL.dIsD_e3, ↓DL.dSortD_e1, ↓DL.kStr1_e1, DL.klook_e1, ↓DL.dVar_n0, ↓DL.dgName_n0, ↓DL.obind_n0, ↓DL.oslot_n0, ↓DL.dVar_n1, ↓DL.dgName_n1, ↓DL.obind_n1, ↓DL.oslot_n1, ↓DL.dVar_n2, ↓DL.dgName_n2, ↓DL.obind_n2, ↓DL.oslot_n2, ↓DL.dVar_n3, ↓DL.dgName_n3, ↓DL.obind_n3, ↓DL.oslot_n3, ↓DL.dVar_n4, ↓DL.dgName_n4, ↓DL.obind_n4, ↓DL.oslot_n4, ↓DL.dVar_n5, ↓DL.dgName_n5, ↓DL.obind_n5, ↓DL.oslot_n5, ↓DL.dVar_n6, ↓DL.dgName_n6, ↓DL.obind_n6, ↓DL.oslot_n6, ↓DL.dVar_n7, ↓DL.dgName_n7, ↓DL.obind_n7, ↓DL.oslot_n7, ↓DL.dVar_n8, ↓DL.dgName_n8, ↓DL.obind_n8, ↓DL.oslot_n8, ↓DL.dVar_n9, ↓DL.dgName_n9, ↓DL.obind_n9, ↓DL.oslot_n9, ↓DL.dVar_n10, ↓DL.dgName_n10, ↓DL.obind_n10, ↓DL.oslot_n10, ↓DL.dVar_n11, ↓DL.dgName_n11, ↓DL.obind_n11, ↓DL.oslot_n11, ↓DL.dVar_n12, ↓DL.dgName_n12, ↓DL.obind_n12, ↓DL.oslot_n12, ↓DL.dVar_n13, ↓DL.dgName_n13, ↓DL.obind_n13, ↓DL.oslot_n13, ↓DL.dVar_n14, ↓DL.dgName_n14, ↓DL.obind_n14, ↓DL.oslot_n14, ↓DL.dVar_n15, ↓DL.dgName_n15, ↓DL.obind_n15, ↓DL.oslot_n15, ↓DL.dVar_n16, ↓DL.dgName_n16, ↓DL.obind_n16, ↓DL.oslot_n16, ↓DL.dVar_n17, ↓DL.dgName_n17, ↓DL.obind_n17, ↓DL.oslot_n17, ↓DL.dVar_n18, ↓DL.dgName_n18, ↓DL.obind_n18, ↓DL.oslot_n18, ↓DL.dVar_n19, ↓DL.dgName_n19, ↓DL.obind_n19, ↓DL.oslot_n19, ↓DL.dVar_n20, ↓DL.dgName_n20, ↓DL.obind_n20, ↓DL.oslot_n20, ↓DL.dVar_n21, ↓DL.dgName_n21, ↓DL.obind_n21, ↓DL.oslot_n21, ↓DL.dVar_n22, ↓DL.dgName_n22, ↓DL.obind_n22, ↓DL.oslot_n22, ↓DL.dVar_n23, ↓DL.dgName_n23, ↓DL.obind_n23, ↓DL.oslot_n23, ↓DL.dVar_n24, ↓DL.dgName_n24, ↓DL.obind_n24, ↓DL.oslot_n24, ↓DL.dVar_n25, ↓DL.dgName_n25, ↓DL.obind_n25, ↓DL.oslot_n25, ↓DL.dVar_n26, ↓DL.dgName_n26, ↓DL.obind_n26, ↓DL.oslot_n26, ↓DL.dVar_n27, ↓DL.dgName_n27, ↓DL.obind_n27, ↓DL.oslot_n27, ↓DL.dVar_n28, ↓DL.dgName_n28, ↓DL.obind_n28, ↓DL.oslot_n28, ↓DL.dVar_n29, ↓DL.dgName_n29, ↓DL.obind_n29, ↓DL.oslot_n29, ↓DL.isiM_int, ↓DL.subTy_NoneType_int, ↓DL.subTy_bool_int, ↓DL.subTy_int_int, ↓DL.subTy_str_int, ↓DL.subTy_tuple_int, ↓DL.subTy_list_int, ↓DL.subTy_dict_int, ↓DL.isiM_str, ↓DL.subTy_NoneType_str, ↓DL.subTy_bool_str, ↓DL.subTy_int_str, ↓DL.subTy_str_str, ↓DL.subTy_tuple_str, ↓DL.subTy_list_str, ↓DL.subTy_dict_str, ↓DL.isiM_bool, ↓DL.subTy_NoneType_bool, ↓DL.subTy_bool_bool, ↓DL.subTy_int_bool, ↓DL.subTy_str_bool, ↓DL.subTy_tuple_bool, ↓DL.subTy_list_bool, ↓DL.subTy_dict_bool, ↓DL.isiM_list, ↓DL.subTy_NoneType_list, ↓DL.subTy_bool_list, ↓DL.subTy_int_list, ↓DL.subTy_str_list, ↓DL.subTy_tuple_list, ↓DL.subTy_list_list, ↓DL.subTy_dict_list, ↓DL.isiM_tuple, ↓DL.subTy_NoneType_tuple, ↓DL.subTy_bool_tuple, ↓DL.subTy_int_tuple, ↓DL.subTy_str_tuple, ↓DL.subTy_tuple_tuple, ↓DL.subTy_list_tuple, ↓DL.subTy_dict_tuple, ↓DL.isiM_dict, ↓DL.subTy_NoneType_dict, ↓DL.subTy_bool_dict, ↓DL.subTy_int_dict, ↓DL.subTy_str_dict, ↓DL.subTy_tuple_dict, ↓DL.subTy_list_dict, ↓DL.subTy_dict_dict, ↓DL.isNon_tup, ↓DL.isNon_lst, ↓DL.isNon_stup, ↓DL.isNon_slst, ↓DL.isNon_str, ↓DL.isNon_int, ↓DL.isNon_bl, ↓DL.isNon_ref, ↓DL.isNon_dK, ↓DL.isNon_dT])
local macro_rules | `(tactic| wp_walk using $ts,*) => `(tactic| ((try simp only [DL.cutD_tail, eq_self, Int.reduceEq, List.nil_append, List.cons_append, DL.ofs_eq, String.reduceEq, DL.inD_cons, DL.inD_nil, Bool.or_false, Bool.or_true, Bool.false_or, Bool.true_or, decide_true, decide_false, not_true_eq_false, not_false_eq_true, DL.dPar, ↓DL.kPar_e1, DL.dPar3, ↓DL.kPar3_e1, DL.dGet1, DL.dGet2, DL.dKGet2, DL.dAsg, DL.dVar, DL.dgName, DL.dgLst, DL.dgSub, List.length_cons, List.length_nil, List.set_cons_zero, List.set_cons_succ, DL.dAnd, DL.dOr, DL.dNot, DL.dTest, DL.dTrue, DL.dOp, DL.dCB, DL.dACons, DL.dANil, DL.dInQ, DL.dIxQ, DL.dAug, DL.dC, DL.dRet, DL.dRetF, DL.dRetN, DL.dSl, DL.dPart, DL.dNoPart, DL.dIf, DL.dIfS, DL.dTup, DL.dLstF, DL.dLstO, DL.dDrop, DL.dNever, DL.dNext, DL.dBreak, DL.dCont, DL.dFor, DL.dILst, DL.dITup, DL.dIStr, DL.dIRng1, DL.dIRng2, DL.dIEnum, DL.dIZip, DL.dBM, DL.dBM0, DL.dCall, DL.dAddO, DL.dMulO, ↓DL.kMulO_e1, DL.dLcO, DL.dAndV, DL.dOrV, DL.dNotV, DL.dNeg, DL.dDix, DL.dDin, DL.dDisp, DL.dDispF, DL.dDNew, DL.dLc, DL.dLc2, DL.bind1, DL.dYes, DL.dFrz, List.map_cons, List.map_nil, List.getElem?_cons_succ, List.getElem?_cons_zero, DL.atI_0, DL.atI_1, DL.atI_2, DL.atI_3, DL.atI_4, DL.atI_5, DL.atI_6, DL.atI_7, DL.ixN_0, DL.ixN_1, DL.ixN_2, DL.ixN_3, DL.oset_same, DL.oset_oset, DL.tl_one, DL.tl_ofL, TL.len_tl, DL.atI_nat_, Bool.false_eq_true, Bool.true_eq_false, Bool.not_false, Bool.not_true, if_true, if_false, decide_eq_true_eq, Bool.not_eq_true', Bool.not_eq_true, decide_eq_false_iff_not, Option.isSome_some, Option.isSome_none, List.all_cons, List.all_nil, Bool.and_self, Bool.true_and, Bool.and_true, ↓reduceIte, and_true, true_and, Nat.zero_add, Nat.reduceAdd, Nat.reduceLeDiff, ↓DL.onSome_e1, ↓DL.onL_e1, ↓DL.lstQ_e1, ↓DL.lstQ_e2, ↓DL.seqQ_e1, ↓DL.seqQ_e2, ↓DL.seqQ_e3, ↓DL.seqQ_e4, ↓DL.seqQ_e5, ↓DL.sqlQ_e1, ↓DL.sqlQ_e2, ↓DL.sqlQ_e3, ↓DL.onK_e1, ↓DL.onT_e1, ↓DL.dkQ_e1, ↓DL.dkQ_e2, ↓DL.dtQ_e1, ↓DL.dtQ_e2, ↓DL.findQ_e1, ↓DL.findQ_e2, ↓DL.findQ_e3, ↓DL.dAdd_e1, ↓DL.dAdd_e2, ↓DL.dAdd_e3, ↓DL.dAdd_e4, ↓DL.dAdd_e5, ↓DL.dAdd_e6, ↓DL.dAdd_e7, ↓DL.dI2_e1, ↓DL.dSub_e1, ↓DL.dCmpI_e1, ↓DL.dEq_e1, ↓DL.dEq_e2, ↓DL.dEq_e3, ↓DL.dEq_e4, ↓DL.dEq_e5, ↓DL.dEq_e6, ↓DL.dEq_e7, ↓DL.dEq_e8, ↓DL.dEq_e9, ↓DL.dEq_e10, ↓DL.dEq_e11, ↓DL.dEq_e12, ↓DL.dEq_e13, ↓DL.dEq_e14, ↓DL.dEq_e15, ↓DL.dIsN_e1, DL.isNon_e1, ↓DL.dInS_e1, ↓DL.dIn_e1, ↓DL.dIn_e2, ↓DL.dIn_e3, ↓DL.dIn_e4, ↓DL.dIn_e5, ↓DL.dIn_e6, ↓DL.dInK_e1, ↓DL.dIx_e1, ↓DL.dIx_e2, ↓DL.dIx_e3, ↓DL.dIx_e4, ↓DL.dIx_e5, ↓DL.dIx_e6, ↓DL.kBl_e1, ↓DL.kInt_e1, ↓DL.kTru_e1, ↓DL.kTru_e2, ↓DL.kTru_e3, ↓DL.kTru_e4, ↓DL.kTru_e5, ↓DL.kTru_e6, ↓DL.kTru_e7, ↓DL.kTru_e8, ↓DL.kTru_e9, ↓DL.kRef_e1, ↓DL.kLst_e1, ↓DL.kLst_e2, ↓DL.kTup_e1, ↓DL.kTup_e2, ↓DL.kStr_e1, ↓DL.kRng1_e1, ↓DL.kRng2_e1, ↓DL.kEnum_e1, ↓DL.kEnum_e2, ↓DL.kZip_e1, ↓DL.frzC_e1, ↓DL.frzC_e2, ↓DL.frzC_e3, ↓DL.dSlR_e1, ↓DL.dSlR_e2, ↓DL.dSlR_e3, ↓DL.dSlR_e4, ↓DL.dSlR_e5, ↓DL.dLen_e1, ↓DL.dLen_e2, ↓DL.dLen_e3, ↓DL.dLen_e4, ↓DL.dLen_e5, ↓DL.dLen_e6, ↓DL.dInt_e1, ↓DL.dInt_e2, ↓DL.dInt_e3, ↓DL.dStrI_e1, ↓DL.dIsi_e1, DL.tyName_e1, DL.tyName_e2, DL.tyName_e3, DL.tyName_e4, DL.tyName_e5, DL.tyName_e6, DL.tyName_e7, DL.tyName_e8, DL.tyName_e9, DL.tyName_e10, ↓DL.dApp_e1, ↓DL.dJoin_e1, ↓DL.dSplit_e1, ↓DL.dgNil_e1, ↓DL.dgCons_e1, ↓DL.dgTup_e1, ↓DL.dSetL_e1, ↓DL.dSetD_e1, ↓DL.dSetD_e2, ↓DL.dSetD_e3, ↓DL.dIAdd_e1, ↓DL.dIAdd_e2, ↓DL.dISub_e1, ↓DL.apart_e1, ↓DL.dUpd_e1, ↓DL.dMulS_e1, ↓DL.dInL_e1, ↓DL.endLc_e1, ↓DL.endLc_e2, DL.bindN_e1, DL.setAll_e1, DL.setAll_e2, DL.mTy_e1, DL.mTy_e2, DL.mTy_e3, DL.mTy_e4, DL.strsOf_e1, DL.strsOf_e2, DL.keyD_e1, DL.keyD_e2, DL.keysD_e1, DL.keysD_e2, ↓DL.forW_e1, ↓DL.forW_e2, ↓DL.lcW_e1, ↓DL.lcW_e2, ↓DL.lcG_e1, ↓DL.lcG_e2, ↓DL.lc2W_e1, ↓DL.lc2W_e2, ↓DL.dPairs_e1, ↓DL.dPairs_e2, DL.kvsOf_e1, DL.kvsOf_e2, DL.slot_e1, DL.slot_e2, DL.dwipe_e1, DL.dwipe_e2, DL.enumD_e1, DL.enumD_e2, DL.zipD_e1, DL.dstart_e1, DL.dstart_e2, DL.dstart_e3, DL.flatD_e1, DL.flatD_e2, DL.flatD_e3, DL.flatD_e4, DL.eqF_e1, DL.eqF_e2, DL.eqF_e3, DL.eqF_e4, DL.eqF_e5, DL.eqF_e6, ↓DL.dTupOf_e1, ↓DL.dTupOf_e2, ↓DL.dTupOf_e3, ↓DL.dListOf_e1, ↓DL.dMin2_e1, ↓DL.dExt_e1, ↓DL.dMulL_e1, ↓DL.dIsD_e1, ↓DL.dIsD_e2, ↓DL.dIsD_e3, ↓DL.dSortD_e1, ↓DL.kStr1_e1, DL.klook_e1, ↓DL.dVar_n0, ↓DL.dgName_n0, ↓DL.obind_n0, ↓DL.oslot_n0, ↓DL.dVar_n1, ↓DL.dgName_n1, ↓DL.obind_n1, ↓DL.oslot_n1, ↓DL.dVar_n2, ↓DL.dgName_n2, ↓DL.obind_n2, ↓DL.oslot_n2, ↓DL.dVar_n3, ↓DL.dgName_n3, ↓DL.obind_n3, ↓DL.oslot_n3, ↓DL.dVar_n4, ↓DL.dgName_n4, ↓DL.obind_n4, ↓DL.oslot_n4, ↓DL.dVar_n5, ↓DL.dgName_n5, ↓DL.obind_n5, ↓DL.oslot_n5, ↓DL.dVar_n6, ↓DL.dgName_n6, ↓DL.obind_n6, ↓DL.oslot_n6, ↓DL.dVar_n7, ↓DL.dgName_n7, ↓DL.obind_n7, ↓DL.oslot_n7, ↓DL.dVar_n8, ↓DL.dgName_n8, ↓DL.obind_n8, ↓DL.oslot_n8, ↓DL.dVar_n9, ↓DL.dgName_n9, ↓DL.obind_n9, ↓DL.oslot_n9, ↓DL.dVar_n10, ↓DL.dgName_n10, ↓DL.obind_n10, ↓DL.oslot_n10, ↓DL.dVar_n11, ↓DL.dgName_n11, ↓DL.obind_n11, ↓DL.oslot_n11, ↓DL.dVar_n12, ↓DL.dgName_n12, ↓DL.obind_n12, ↓DL.oslot_n12, ↓DL.dVar_n13, ↓DL.dgName_n13, ↓DL.obind_n13, ↓DL.oslot_n13, ↓DL.dVar_n14, ↓DL.dgName_n14, ↓DL.obind_n14, ↓DL.oslot_n14, ↓DL.dVar_n15, ↓DL.dgName_n15, ↓DL.obind_n15, ↓DL.oslot_n15, ↓DL.dVar_n16, ↓DL.dgName_n16, ↓DL.obind_n16, ↓DL.oslot_n16, ↓DL.dVar_n17, ↓DL.dgName_n17, ↓DL.obind_n17, ↓DL.oslot_n17, ↓DL.dVar_n18, ↓DL.dgName_n18, ↓DL.obind_n18, ↓DL.oslot_n18, ↓DL.dVar_n19, ↓DL.dgName_n19, ↓DL.obind_n19, ↓DL.oslot_n19, ↓DL.dVar_n20, ↓DL.dgName_n20, ↓DL.obind_n20, ↓DL.oslot_n20, ↓DL.dVar_n21, ↓DL.dgName_n21, ↓DL.obind_n21, ↓DL.oslot_n21, ↓DL.dVar_n22, ↓DL.dgName_n22, ↓DL.obind_n22, ↓DL.oslot_n22, ↓DL.dVar_n23, ↓DL.dgName_n23, ↓DL.obind_n23, ↓DL.oslot_n23, ↓DL.dVar_n24, ↓DL.dgName_n24, ↓DL.obind_n24, ↓DL.oslot_n24, ↓DL.dVar_n25, ↓DL.dgName_n25, ↓DL.obind_n25, ↓DL.oslot_n25, ↓DL.dVar_n26, ↓DL.dgName_n26, ↓DL.obind_n26, ↓DL.oslot_n26, ↓DL.dVar_n27, ↓DL.dgName_n27, ↓DL.obind_n27, ↓DL.oslot_n27, ↓DL.dVar_n28, ↓DL.dgName_n28, ↓DL.obind_n28, ↓DL.oslot_n28, ↓DL.dVar_n29, ↓DL.dgName_n29, ↓DL.obind_n29, ↓DL.oslot_n29, ↓DL.isiM_int, ↓DL.subTy_NoneType_int, ↓DL.subTy_bool_int, ↓DL.subTy_int_int, ↓DL.subTy_str_int, ↓DL.subTy_tuple_int, ↓DL.subTy_list_int, ↓DL.subTy_dict_int, ↓DL.isiM_str, ↓DL.subTy_NoneType_str, ↓DL.subTy_bool_str, ↓DL.subTy_int_str, ↓DL.subTy_str_str, ↓DL.subTy_tuple_str, ↓DL.subTy_list_str, ↓DL.subTy_dict_str, ↓DL.isiM_bool, ↓DL.subTy_NoneType_bool, ↓DL.subTy_bool_bool, ↓DL.subTy_int_bool, ↓DL.subTy_str_bool, ↓DL.subTy_tuple_bool, ↓DL.subTy_list_bool, ↓DL.subTy_dict_bool, ↓DL.isiM_list, ↓DL.subTy_NoneType_list, ↓DL.subTy_bool_list, ↓DL.subTy_int_list, ↓DL.subTy_str_list, ↓DL.subTy_tuple_list, ↓DL.subTy_list_list, ↓DL.subTy_dict_list, ↓DL.isiM_tuple, ↓DL.subTy_NoneType_tuple, ↓DL.subTy_bool_tuple, ↓DL.subTy_int_tuple, ↓DL.subTy_str_tuple, ↓DL.subTy_tuple_tuple, ↓DL.subTy_list_tuple, ↓DL.subTy_dict_tuple, ↓DL.isiM_dict, ↓DL.subTy_NoneType_dict, ↓DL.subTy_bool_dict, ↓DL.subTy_int_dict, ↓DL.subTy_str_dict, ↓DL.subTy_tuple_dict, ↓DL.subTy_list_dict, ↓DL.subTy_dict_dict, ↓DL.isNon_tup, ↓DL.isNon_lst, ↓DL.isNon_stup, ↓DL.isNon_slst, ↓DL.isNon_str, ↓DL.isNon_int, ↓DL.isNon_bl, ↓DL.isNon_ref, ↓DL.isNon_dK, ↓DL.isNon_dT, $[$ts:term],*]); (repeat ((with_reducible refine DL.seq_r (fun R hR => ?_)); simp only [DL.cutD_tail, eq_self, Int.reduceEq, List.nil_append, List.cons_append, DL.ofs_eq, String.reduceEq, DL.inD_cons, DL.inD_nil, Bool.or_false, Bool.or_true, Bool.false_or, Bool.true_or, decide_true, decide_false, not_true_eq_false, not_false_eq_true, DL.dPar, ↓DL.kPar_e1, DL.dPar3, ↓DL.kPar3_e1, DL.dGet1, DL.dGet2, DL.dKGet2, DL.dAsg, DL.dVar, DL.dgName, DL.dgLst, DL.dgSub, List.length_cons, List.length_nil, List.set_cons_zero, List.set_cons_succ, DL.dAnd, DL.dOr, DL.dNot, DL.dTest, DL.dTrue, DL.dOp, DL.dCB, DL.dACons, DL.dANil, DL.dInQ, DL.dIxQ, DL.dAug, DL.dC, DL.dRet, DL.dRetF, DL.dRetN, DL.dSl, DL.dPart, DL.dNoPart, DL.dIf, DL.dIfS, DL.dTup, DL.dLstF, DL.dLstO, DL.dDrop, DL.dNever, DL.dNext, DL.dBreak, DL.dCont, DL.dFor, DL.dILst, DL.dITup, DL.dIStr, DL.dIRng1, DL.dIRng2, DL.dIEnum, DL.dIZip, DL.dBM, DL.dBM0, DL.dCall, DL.dAddO, DL.dMulO, ↓DL.kMulO_e1, DL.dLcO, DL.dAndV, DL.dOrV, DL.dNotV, DL.dNeg, DL.dDix, DL.dDin, DL.dDisp, DL.dDispF, DL.dDNew, DL.dLc, DL.dLc2, DL.bind1, DL.dYes, DL.dFrz, List.map_cons, List.map_nil, List.getElem?_cons_succ, List.getElem?_cons_zero, DL.atI_0, DL.atI_1, DL.atI_2, DL.atI_3, DL.atI_4, DL.atI_5, DL.atI_6, DL.atI_7, DL.ixN_0, DL.ixN_1, DL.ixN_2, DL.ixN_3, DL.oset_same, DL.oset_oset, DL.tl_one, DL.tl_ofL, TL.len_tl, DL.atI_nat_, Bool.false_eq_true, Bool.true_eq_false, Bool.not_false, Bool.not_true, if_true, if_false, decide_eq_true_eq, Bool.not_eq_true', Bool.not_eq_true, decide_eq_false_iff_not, Option.isSome_some, Option.isSome_none, List.all_cons, List.all_nil, Bool.and_self, Bool.true_and, Bool.and_true, ↓reduceIte, and_true, true_and, Nat.zero_add, Nat.reduceAdd, Nat.reduceLeDiff, ↓DL.onSome_e1, ↓DL.onL_e1, ↓DL.lstQ_e1, ↓DL.lstQ_e2, ↓DL.seqQ_e1, ↓DL.seqQ_e2, ↓DL.seqQ_e3, ↓DL.seqQ_e4, ↓DL.seqQ_e5, ↓DL.sqlQ_e1, ↓DL.sqlQ_e2, ↓DL.sqlQ_e3, ↓DL.onK_e1, ↓DL.onT_e1, ↓DL.dkQ_e1, ↓DL.dkQ_e2, ↓DL.dtQ_e1, ↓DL.dtQ_e2, ↓DL.findQ_e1, ↓DL.findQ_e2, ↓DL.findQ_e3, ↓DL.dAdd_e1, ↓DL.dAdd_e2, ↓DL.dAdd_e3, ↓DL.dAdd_e4, ↓DL.dAdd_e5, ↓DL.dAdd_e6, ↓DL.dAdd_e7, ↓DL.dI2_e1, ↓DL.dSub_e1, ↓DL.dCmpI_e1, ↓DL.dEq_e1, ↓DL.dEq_e2, ↓DL.dEq_e3, ↓DL.dEq_e4, ↓DL.dEq_e5, ↓DL.dEq_e6, ↓DL.dEq_e7, ↓DL.dEq_e8, ↓DL.dEq_e9, ↓DL.dEq_e10, ↓DL.dEq_e11, ↓DL.dEq_e12, ↓DL.dEq_e13, ↓DL.dEq_e14, ↓DL.dEq_e15, ↓DL.dIsN_e1, DL.isNon_e1, ↓DL.dInS_e1, ↓DL.dIn_e1, ↓DL.dIn_e2, ↓DL.dIn_e3, ↓DL.dIn_e4, ↓DL.dIn_e5, ↓DL.dIn_e6, ↓DL.dInK_e1, ↓DL.dIx_e1, ↓DL.dIx_e2, ↓DL.dIx_e3, ↓DL.dIx_e4, ↓DL.dIx_e5, ↓DL.dIx_e6, ↓DL.kBl_e1, ↓DL.kInt_e1, ↓DL.kTru_e1, ↓DL.kTru_e2, ↓DL.kTru_e3, ↓DL.kTru_e4, ↓DL.kTru_e5, ↓DL.kTru_e6, ↓DL.kTru_e7, ↓DL.kTru_e8, ↓DL.kTru_e9, ↓DL.kRef_e1, ↓DL.kLst_e1, ↓DL.kLst_e2, ↓DL.kTup_e1, ↓DL.kTup_e2, ↓DL.kStr_e1, ↓DL.kRng1_e1, ↓DL.kRng2_e1, ↓DL.kEnum_e1, ↓DL.kEnum_e2, ↓DL.kZip_e1, ↓DL.frzC_e1, ↓DL.frzC_e2, ↓DL.frzC_e3, ↓DL.dSlR_e1, ↓DL.dSlR_e2, ↓DL.dSlR_e3, ↓DL.dSlR_e4, ↓DL.dSlR_e5, ↓DL.dLen_e1, ↓DL.dLen_e2, ↓DL.dLen_e3, ↓DL.dLen_e4, ↓DL.dLen_e5, ↓DL.dLen_e6, ↓DL.dInt_e1, ↓DL.dInt_e2, ↓DL.dInt_e3, ↓DL.dStrI_e1, ↓DL.dIsi_e1, DL.tyName_e1, DL.tyName_e2, DL.tyName_e3, DL.tyName_e4, DL.tyName_e5, DL.tyName_e6, DL.tyName_e7, DL.tyName_e8, DL.tyName_e9, DL.tyName_e10, ↓DL.dApp_e1, ↓DL.dJoin_e1, ↓DL.dSplit_e1, ↓DL.dgNil_e1, ↓DL.dgCons_e1, ↓DL.dgTup_e1, ↓DL.dSetL_e1, ↓DL.dSetD_e1, ↓DL.dSetD_e2, ↓DL.dSetD_e3, ↓DL.dIAdd_e1, ↓DL.dIAdd_e2, ↓DL.dISub_e1, ↓DL.apart_e1, ↓DL.dUpd_e1, ↓DL.dMulS_e1, ↓DL.dInL_e1, ↓DL.endLc_e1, ↓DL.endLc_e2, DL.bindN_e1, DL.setAll_e1, DL.setAll_e2, DL.mTy_e1, DL.mTy_e2, DL.mTy_e3, DL.mTy_e4, DL.strsOf_e1, DL.strsOf_e2, DL.keyD_e1, DL.keyD_e2, DL.keysD_e1, DL.keysD_e2, ↓DL.forW_e1, ↓DL.forW_e2, ↓DL.lcW_e1, ↓DL.lcW_e2, ↓DL.lcG_e1, ↓DL.lcG_e2, ↓DL.lc2W_e1, ↓DL.lc2W_e2, ↓DL.dPairs_e1, ↓DL.dPairs_e2, DL.kvsOf_e1, DL.kvsOf_e2, DL.slot_e1, DL.slot_e2, DL.dwipe_e1, DL.dwipe_e2, DL.enumD_e1, DL.enumD_e2, DL.zipD_e1, DL.dstart_e1, DL.dstart_e2, DL.dstart_e3, DL.flatD_e1, DL.flatD_e2, DL.flatD_e3, DL.flatD_e4, DL.eqF_e1, DL.eqF_e2, DL.eqF_e3, DL.eqF_e4, DL.eqF_e5, DL.eqF_e6, ↓DL.dTupOf_e1, ↓DL.dTupOf_e2, ↓DL.dTupOf_e3, ↓DL.dListOf_e1, ↓DL.dMin2_e1, ↓DL.dExt_e1, ↓DL.dMulL_e1, ↓DL.dIsD_e1, ↓DL.dIsD_e2, ↓DL.dIsD_e3, ↓DL.dSortD_e1, ↓DL.kStr1_e1, DL.klook_e1, ↓DL.dVar_n0, ↓DL.dgName_n0, ↓DL.obind_n0, ↓DL.oslot_n0, ↓DL.dVar_n1, ↓DL.dgName_n1, ↓DL.obind_n1, ↓DL.oslot_n1, ↓DL.dVar_n2, ↓DL.dgName_n2, ↓DL.obind_n2, ↓DL.oslot_n2, ↓DL.dVar_n3, ↓DL.dgName_n3, ↓DL.obind_n3, ↓DL.oslot_n3, ↓DL.dVar_n4, ↓DL.dgName_n4, ↓DL.obind_n4, ↓DL.oslot_n4, ↓DL.dVar_n5, ↓DL.dgName_n5, ↓DL.obind_n5, ↓DL.oslot_n5, ↓DL.dVar_n6, ↓DL.dgName_n6, ↓DL.obind_n6, ↓DL.oslot_n6, ↓DL.dVar_n7, ↓DL.dgName_n7, ↓DL.obind_n7, ↓DL.oslot_n7, ↓DL.dVar_n8, ↓DL.dgName_n8, ↓DL.obind_n8, ↓DL.oslot_n8, ↓DL.dVar_n9, ↓DL.dgName_n9, ↓DL.obind_n9, ↓DL.oslot_n9, ↓DL.dVar_n10, ↓DL.dgName_n10, ↓DL.obind_n10, ↓DL.oslot_n10, ↓DL.dVar_n11, ↓DL.dgName_n11, ↓DL.obind_n11, ↓DL.oslot_n11, ↓DL.dVar_n12, ↓DL.dgName_n12, ↓DL.obind_n12, ↓DL.oslot_n12, ↓DL.dVar_n13, ↓DL.dgName_n13, ↓DL.obind_n13, ↓DL.oslot_n13, ↓DL.dVar_n14, ↓DL.dgName_n14, ↓DL.obind_n14, ↓DL.oslot_n14, ↓DL.dVar_n15, ↓DL.dgName_n15, ↓DL.obind_n15, ↓DL.oslot_n15, ↓DL.dVar_n16, ↓DL.dgName_n16, ↓DL.obind_n16, ↓DL.oslot_n16, ↓DL.dVar_n17, ↓DL.dgName_n17, ↓DL.obind_n17, ↓DL.oslot_n17, ↓DL.dVar_n18, ↓DL.dgName_n18, ↓DL.obind_n18, ↓DL.oslot_n18, ↓DL.dVar_n19, ↓DL.dgName_n19, ↓DL.obind_n19, ↓DL.oslot_n19, ↓DL.dVar_n20, ↓DL.dgName_n20, ↓DL.obind_n20, ↓DL.oslot_n20, ↓DL.dVar_n21, ↓DL.dgName_n21, ↓DL.obind_n21, ↓DL.oslot_n21, ↓DL.dVar_n22, ↓DL.dgName_n22, ↓DL.obind_n22, ↓DL.oslot_n22, ↓DL.dVar_n23, ↓DL.dgName_n23, ↓DL.obind_n23, ↓DL.oslot_n23, ↓DL.dVar_n24, ↓DL.dgName_n24, ↓DL.obind_n24, ↓DL.oslot_n24, ↓DL.dVar_n25, ↓DL.dgName_n25, ↓DL.obind_n25, ↓DL.oslot_n25, ↓DL.dVar_n26, ↓DL.dgName_n26, ↓DL.obind_n26, ↓DL.oslot_n26, ↓DL.dVar_n27, ↓DL.dgName_n27, ↓DL.obind_n27, ↓DL.oslot_n27, ↓DL.dVar_n28, ↓DL.dgName_n28, ↓DL.obind_n28, ↓DL.oslot_n28, ↓DL.dVar_n29, ↓DL.dgName_n29, ↓DL.obind_n29, ↓DL.oslot_n29, ↓DL.isiM_int, ↓DL.subTy_NoneType_int, ↓DL.subTy_bool_int, ↓DL.subTy_int_int, ↓DL.subTy_str_int, ↓DL.subTy_tuple_int, ↓DL.subTy_list_int, ↓DL.subTy_dict_int, ↓DL.isiM_str, ↓DL.subTy_NoneType_str, ↓DL.subTy_bool_str, ↓DL.subTy_int_str, ↓DL.subTy_str_str, ↓DL.subTy_tuple_str, ↓DL.subTy_list_str, ↓DL.subTy_dict_str, ↓DL.isiM_bool, ↓DL.subTy_NoneType_bool, ↓DL.subTy_bool_bool, ↓DL.subTy_int_bool, ↓DL.subTy_str_bool, ↓DL.subTy_tuple_bool, ↓DL.subTy_list_bool, ↓DL.subTy_dict_bool, ↓DL.isiM_list, ↓DL.subTy_NoneType_list, ↓DL.subTy_bool_list, ↓DL.subTy_int_list, ↓DL.subTy_str_list, ↓DL.subTy_tuple_list, ↓DL.subTy_list_list, ↓DL.subTy_dict_list, ↓DL.isiM_tuple, ↓DL.subTy_NoneType_tuple, ↓DL.subTy_bool_tuple, ↓DL.subTy_int_tuple, ↓DL.subTy_str_tuple, ↓DL.subTy_tuple_tuple, ↓DL.subTy_list_tuple, ↓DL.subTy_dict_tuple, ↓DL.isiM_dict, ↓DL.subTy_NoneType_dict, ↓DL.subTy_bool_dict, ↓DL.subTy_int_dict, ↓DL.subTy_str_dict, ↓DL.subTy_tuple_dict, ↓DL.subTy_list_dict, ↓DL.subTy_dict_dict, ↓DL.isNon_tup, ↓DL.isNon_lst, ↓DL.isNon_stup, ↓DL.isNon_slst, ↓DL.isNon_str, ↓DL.isNon_int, ↓DL.isNon_bl, ↓DL.isNon_ref, ↓DL.isNon_dK, ↓DL.isNon_dT, $[$ts:term],*]; subst hR)); (try simp only [DL.cutD_tail, eq_self, Int.reduceEq, List.nil_append, List.cons_append, DL.ofs_eq, String.reduceEq, DL.inD_cons, DL.inD_nil, Bool.or_false, Bool.or_true, Bool.false_or, Bool.true_or, decide_true, decide_false, not_true_eq_false, not_false_eq_true, DL.dPar, ↓DL.kPar_e1, DL.dPar3, ↓DL.kPar3_e1, DL.dGet1, DL.dGet2, DL.dKGet2, DL.dAsg, DL.dVar, DL.dgName, DL.dgLst, DL.dgSub, List.length_cons, List.length_nil, List.set_cons_zero, List.set_cons_succ, DL.dAnd, DL.dOr, DL.dNot, DL.dTest, DL.dTrue, DL.dOp, DL.dCB, DL.dACons, DL.dANil, DL.dInQ, DL.dIxQ, DL.dAug, DL.dC, DL.dRet, DL.dRetF, DL.dRetN, DL.dSl, DL.dPart, DL.dNoPart, DL.dIf, DL.dIfS, DL.dTup, DL.dLstF, DL.dLstO, DL.dDrop, DL.dNever, DL.dNext, DL.dBreak, DL.dCont, DL.dFor, DL.dILst, DL.dITup, DL.dIStr, DL.dIRng1, DL.dIRng2, DL.dIEnum, DL.dIZip, DL.dBM, DL.dBM0, DL.dCall, DL.dAddO, DL.dMulO, ↓DL.kMulO_e1, DL.dLcO, DL.dAndV, DL.dOrV, DL.dNotV, DL.dNeg, DL.dDix, DL.dDin, DL.dDisp, DL.dDispF, DL.dDNew, DL.dLc, DL.dLc2, DL.bind1, DL.dYes, DL.dFrz, List.map_cons, List.map_nil, List.getElem?_cons_succ, List.getElem?_cons_zero, DL.atI_0, DL.atI_1, DL.atI_2, DL.atI_3, DL.atI_4, DL.atI_5, DL.atI_6, DL.atI_7, DL.ixN_0, DL.ixN_1, DL.ixN_2, DL.ixN_3, DL.oset_same, DL.oset_oset, DL.tl_one, DL.tl_ofL, TL.len_tl, DL.atI_nat_, Bool.false_eq_true, Bool.true_eq_false, Bool.not_false, Bool.not_true, if_true, if_false, decide_eq_true_eq, Bool.not_eq_true', Bool.not_eq_true, decide_eq_false_iff_not, Option.isSome_some, Option.isSome_none, List.all_cons, List.all_nil, Bool.and_self, Bool.true_and, Bool.and_true, ↓reduceIte, and_true, true_and, Nat.zero_add, Nat.reduceAdd, Nat.reduceLeDiff, ↓DL.onSome_e1, ↓DL.onL_e1, ↓DL.lstQ_e1, ↓DL.lstQ_e2, ↓DL.seqQ_e1, ↓DL.seqQ_e2, ↓DL.seqQ_e3, ↓DL.seqQ_e4, ↓DL.seqQ_e5, ↓DL.sqlQ_e1, ↓DL.sqlQ_e2, ↓DL.sqlQ_e3, ↓DL.onK_e1, ↓DL.onT_e1, ↓DL.dkQ_e1, ↓DL.dkQ_e2, ↓DL.dtQ_e1, ↓DL.dtQ_e2, ↓DL.findQ_e1, ↓DL.findQ_e2, ↓DL.findQ_e3, ↓DL.dAdd_e1, ↓DL.dAdd_e2, ↓DL.dAdd_e3, ↓DL.dAdd_e4, ↓DL.dAdd_e5, ↓DL.dAdd_e6, ↓DL.dAdd_e7, ↓DL.dI2_e1, ↓DL.dSub_e1, ↓DL.dCmpI_e1, ↓DL.dEq_e1, ↓DL.dEq_e2, ↓DL.dEq_e3, ↓DL.dEq_e4, ↓DL.dEq_e5, ↓DL.dEq_e6, ↓DL.dEq_e7, ↓DL.dEq_e8, ↓DL.dEq_e9, ↓DL.dEq_e10, ↓DL.dEq_e11, ↓DL.dEq_e12, ↓DL.dEq_e13, ↓DL.dEq_e14, ↓DL.dEq_e15, ↓DL.dIsN_e1, DL.isNon_e1, ↓DL.dInS_e1, ↓DL.dIn_e1, ↓DL.dIn_e2, ↓DL.dIn_e3, ↓DL.dIn_e4, ↓DL.dIn_e5, ↓DL.dIn_e6, ↓DL.dInK_e1, ↓DL.dIx_e1, ↓DL.dIx_e2, ↓DL.dIx_e3, ↓DL.dIx_e4, ↓DL.dIx_e5, ↓DL.dIx_e6, ↓DL.kBl_e1, ↓DL.kInt_e1, ↓DL.kTru_e1, ↓DL.kTru_e2, ↓DL.kTru_e3, ↓DL.kTru_e4, ↓DL.kTru_e5, ↓DL.kTru_e6, ↓DL.kTru_e7, ↓DL.kTru_e8, ↓DL.kTru_e9, ↓DL.kRef_e1, ↓DL.kLst_e1, ↓DL.kLst_e2, ↓DL.kTup_e1, ↓DL.kTup_e2, ↓DL.kStr_e1, ↓DL.kRng1_e1, ↓DL.kRng2_e1, ↓DL.kEnum_e1, ↓DL.kEnum_e2, ↓DL.kZip_e1, ↓DL.frzC_e1, ↓DL.frzC_e2, ↓DL.frzC_e3, ↓DL.dSlR_e1, ↓DL.dSlR_e2, ↓DL.dSlR_e3, ↓DL.dSlR_e4, ↓DL.dSlR_e5, ↓DL.dLen_e1, ↓DL.dLen_e2, ↓DL.dLen_e3, ↓DL.dLen_e4, ↓DL.dLen_e5, ↓DL.dLen_e6, ↓DL.dInt_e1, ↓DL.dInt_e2, ↓DL.dInt_e3, ↓DL.dStrI_e1, ↓DL.dIsi_e1, DL.tyName_e1, DL.tyName_e2, DL.tyName_e3, DL.tyName_e4, DL.tyName_e5, DL.tyName_e6, DL.tyName_e7, DL.tyName_e8, DL.tyName_e9, DL.tyName_e10, ↓DL.dApp_e1, ↓DL.dJoin_e1, ↓DL.dSplit_e1, ↓DL.dgNil_e1, ↓DL.dgCons_e1, ↓DL.dgTup_e1, ↓DL.dSetL_e1, ↓DL.dSetD_e1, ↓DL.dSetD_e2, ↓DL.dSetD_e3, ↓DL.dIAdd_e1, ↓DL.dIAdd_e2, ↓DL.dISub_e1, ↓DL.apart_e1, ↓DL.dUpd_e1, ↓DL.dMulS_e1, ↓DL.dInL_e1, ↓DL.endLc_e1, ↓DL.endLc_e2, DL.bindN_e1, DL.setAll_e1, DL.setAll_e2, DL.mTy_e1, DL.mTy_e2, DL.mTy_e3, DL.mTy_e4, DL.strsOf_e1, DL.strsOf_e2, DL.keyD_e1, DL.keyD_e2, DL.keysD_e1, DL.keysD_e2, ↓DL.forW_e1, ↓DL.forW_e2, ↓DL.lcW_e1, ↓DL.lcW_e2, ↓DL.lcG_e1, ↓DL.lcG_e2, ↓DL.lc2W_e1, ↓DL.lc2W_e2, ↓DL.dPairs_e1, ↓DL.dPairs_e2, DL.kvsOf_e1, DL.kvsOf_e2, DL.slot_e1, DL.slot_e2, DL.dwipe_e1, DL.dwipe_e2, DL.enumD_e1, DL.enumD_e2, DL.zipD_e1, DL.dstart_e1, DL.dstart_e2, DL.dstart_e3, DL.flatD_e1, DL.flatD_e2, DL.flatD_e3, DL.flatD_e4, DL.eqF_e1, DL.eqF_e2, DL.eqF_e3, DL.eqF_e4, DL.eqF_e5, DL.eqF_e6, ↓DL.dTupOf_e1, ↓DL.dTupOf_e2, ↓DL.dTupOf_e3, ↓DL.dListOf_e1, ↓DL.dMin2_e1, ↓DL.dExt_e1, ↓DL.dMulL_e1, ↓DL.dIsD_e1, ↓DL.dIsD_e2, ↓DL.dIsD_e3, ↓DL.dSortD_e1, ↓DL.kStr1_e1, DL.klook_e1, ↓DL.dVar_n0, ↓DL.dgName_n0, ↓DL.obind_n0, ↓DL.oslot_n0, ↓DL.dVar_n1, ↓DL.dgName_n1, ↓DL.obind_n1, ↓DL.oslot_n1, ↓DL.dVar_n2, ↓DL.dgName_n2, ↓DL.obind_n2, ↓DL.oslot_n2, ↓DL.dVar_n3, ↓DL.dgName_n3, ↓DL.obind_n3, ↓DL.oslot_n3, ↓DL.dVar_n4, ↓DL.dgName_n4, ↓DL.obind_n4, ↓DL.oslot_n4, ↓DL.dVar_n5, ↓DL.dgName_n5, ↓DL.obind_n5, ↓DL.oslot_n5, ↓DL.dVar_n6, ↓DL.dgName_n6, ↓DL.obind_n6, ↓DL.oslot_n6, ↓DL.dVar_n7, ↓DL.dgName_n7, ↓DL.obind_n7, ↓DL.oslot_n7, ↓DL.dVar_n8, ↓DL.dgName_n8, ↓DL.obind_n8, ↓DL.oslot_n8, ↓DL.dVar_n9, ↓DL.dgName_n9, ↓DL.obind_n9, ↓DL.oslot_n9, ↓DL.dVar_n10, ↓DL.dgName_n10, ↓DL.obind_n10, ↓DL.oslot_n10, ↓DL.dVar_n11, ↓DL.dgName_n11, ↓DL.obind_n11, ↓DL.oslot_n11, ↓DL.dVar_n12, ↓DL.dgName_n12, ↓DL.obind_n12, ↓DL.oslot_n12, ↓DL.dVar_n13, ↓DL.dgName_n13, ↓DL.obind_n13, ↓DL.oslot_n13, ↓DL.dVar_n14, ↓DL.dgName_n14, ↓DL.obind_n14, ↓DL.oslot_n14, ↓DL.dVar_n15, ↓DL.dgName_n15, ↓DL.obind_n15, ↓DL.oslot_n15, ↓DL.dVar_n16, ↓DL.dgName_n16, ↓DL.obind_n16, ↓DL.oslot_n16, ↓DL.dVar_n17, ↓DL.dgName_n17, ↓DL.obind_n17, ↓DL.oslot_n17, ↓DL.dVar_n18, ↓DL.dgName_n18, ↓DL.obind_n18, ↓DL.oslot_n18, ↓DL.dVar_n19, ↓DL.dgName_n19, ↓DL.obind_n19, ↓DL.oslot_n19, ↓DL.dVar_n20, ↓DL.dgName_n20, ↓DL.obind_n20, ↓DL.oslot_n20, ↓DL.dVar_n21, ↓DL.dgName_n21, ↓DL.obind_n21, ↓DL.oslot_n21, ↓DL.dVar_n22, ↓DL.dgName_n22, ↓DL.obind_n22, ↓DL.oslot_n22, ↓DL.dVar_n23, ↓DL.dgName_n23, ↓DL.obind_n23, ↓DL.oslot_n23, ↓DL.dVar_n24, ↓DL.dgName_n24, ↓DL.obind_n24, ↓DL.oslot_n24, ↓DL.dVar_n25, ↓DL.dgName_n25, ↓DL.obind_n25, ↓DL.oslot_n25, ↓DL.dVar_n26, ↓DL.dgName_n26, ↓DL.obind_n26, ↓DL.oslot_n26, ↓DL.dVar_n27, ↓DL.dgName_n27, ↓DL.obind_n27, ↓DL.oslot_n27, ↓DL.dVar_n28, ↓DL.dgName_n28, ↓DL.obind_n28, ↓DL.oslot_n28, ↓DL.dVar_n29, ↓DL.dgName_n29, ↓DL.obind_n29, ↓DL.oslot_n29, ↓DL.isiM_int, ↓DL.subTy_NoneType_int, ↓DL.subTy_bool_int, ↓DL.subTy_int_int, ↓DL.subTy_str_int, ↓DL.subTy_tuple_int, ↓DL.subTy_list_int, ↓DL.subTy_dict_int, ↓DL.isiM_str, ↓DL.subTy_NoneType_str, ↓DL.subTy_bool_str, ↓DL.subTy_int_str, ↓DL.subTy_str_str, ↓DL.subTy_tuple_str, ↓DL.subTy_list_str, ↓DL.subTy_dict_str, ↓DL.isiM_bool, ↓DL.subTy_NoneType_bool, ↓DL.subTy_bool_bool, ↓DL.subTy_int_bool, ↓DL.subTy_str_bool, ↓DL.subTy_tuple_bool, ↓DL.subTy_list_bool, ↓DL.subTy_dict_bool, ↓DL.isiM_list, ↓DL.subTy_NoneType_list, ↓DL.subTy_bool_list, ↓DL.subTy_int_list, ↓DL.subTy_str_list, ↓DL.subTy_tuple_list, ↓DL.subTy_list_list, ↓DL.subTy_dict_list, ↓DL.isiM_tuple, ↓DL.subTy_NoneType_tuple, ↓DL.subTy_bool_tuple, ↓DL.subTy_int_tuple, ↓DL.subTy_str_tuple, ↓DL.subTy_tuple_tuple, ↓DL.subTy_list_tuple, ↓DL.subTy_dict_tuple, ↓DL.isiM_dict, ↓DL.subTy_NoneType_dict, ↓DL.subTy_bool_dict, ↓DL.subTy_int_dict, ↓DL.subTy_str_dict, ↓DL.subTy_tuple_dict, ↓DL.subTy_list_dict, ↓DL.subTy_dict_dict, ↓DL.isNon_tup, ↓DL.isNon_lst, ↓DL.isNon_stup, ↓DL.isNon_slst, ↓DL.isNon_str, ↓DL.isNon_int, ↓DL.isNon_bl, ↓DL.isNon_ref, ↓DL.isNon_dK, ↓DL.isNon_dT, $[$ts:term],*]); (repeat ((with_reducible refine And.intro ?_ ?_); (walk_at "sz"); (try simp only [DL.cutD_tail, eq_self, Int.reduceEq, List.nil_append, List.cons_append, DL.ofs_eq, String.reduceEq, DL.inD_cons, DL.inD_nil, Bool.or_false, Bool.or_true, Bool.false_or, Bool.true_or, decide_true, decide_false, not_true_eq_false, not_false_eq_true, DL.dPar, ↓DL.kPar_e1, DL.dPar3, ↓DL.kPar3_e1, DL.dGet1, DL.dGet2, DL.dKGet2, DL.dAsg, DL.dVar, DL.dgName, DL.dgLst, DL.dgSub, List.length_cons, List.length_nil, List.set_cons_zero, List.set_cons_succ, DL.dAnd, DL.dOr, DL.dNot, DL.dTest, DL.dTrue, DL.dOp, DL.dCB, DL.dACons, DL.dANil, DL.dInQ, DL.dIxQ, DL.dAug, DL.dC, DL.dRet, DL.dRetF, DL.dRetN, DL.dSl, DL.dPart, DL.dNoPart, DL.dIf, DL.dIfS, DL.dTup, DL.dLstF, DL.dLstO, DL.dDrop, DL.dNever, DL.dNext, DL.dBreak, DL.dCont, DL.dFor, DL.dILst, DL.dITup, DL.dIStr, DL.dIRng1, DL.dIRng2, DL.dIEnum, DL.dIZip, DL.dBM, DL.dBM0, DL.dCall, DL.dAddO, DL.dMulO, ↓DL.kMulO_e1, DL.dLcO, DL.dAndV, DL.dOrV, DL.dNotV, DL.dNeg, DL.dDix, DL.dDin, DL.dDisp, DL.dDispF, DL.dDNew, DL.dLc, DL.dLc2, DL.bind1, DL.dYes, DL.dFrz, List.map_cons, List.map_nil, List.getElem?_cons_succ, List.getElem?_cons_zero, DL.atI_0, DL.atI_1, DL.atI_2, DL.atI_3, DL.atI_4, DL.atI_5, DL.atI_6, DL.atI_7, DL.ixN_0, DL.ixN_1, DL.ixN_2, DL.ixN_3, DL.oset_same, DL.oset_oset, DL.tl_one, DL.tl_ofL, TL.len_tl, DL.atI_nat_, Bool.false_eq_true, Bool.true_eq_false, Bool.not_false, Bool.not_true, if_true, if_false, decide_eq_true_eq, Bool.not_eq_true', Bool.not_eq_true, decide_eq_false_iff_not, Option.isSome_some, Option.isSome_none, List.all_cons, List.all_nil, Bool.and_self, Bool.true_and, Bool.and_true, ↓reduceIte, and_true, true_and, Nat.zero_add, Nat.reduceAdd, Nat.reduceLeDiff, ↓DL.onSome_e1, ↓DL.onL_e1, ↓DL.lstQ_e1, ↓DL.lstQ_e2, ↓DL.seqQ_e1, ↓DL.seqQ_e2, ↓DL.seqQ_e3, ↓DL.seqQ_e4, ↓DL.seqQ_e5, ↓DL.sqlQ_e1, ↓DL.sqlQ_e2, ↓DL.sqlQ_e3, ↓DL.onK_e1, ↓DL.onT_e1, ↓DL.dkQ_e1, ↓DL.dkQ_e2, ↓DL.dtQ_e1, ↓DL.dtQ_e2, ↓DL.findQ_e1, ↓DL.findQ_e2, ↓DL.findQ_e3, ↓DL.dAdd_e1, ↓DL.dAdd_e2, ↓DL.dAdd_e3, ↓DL.dAdd_e4, ↓DL.dAdd_e5, ↓DL.dAdd_e6, ↓DL.dAdd_e7, ↓DL.dI2_e1, ↓DL.dSub_e1, ↓DL.dCmpI_e1, ↓DL.dEq_e1, ↓DL.dEq_e2, ↓DL.dEq_e3, ↓DL.dEq_e4, ↓DL.dEq_e5, ↓DL.dEq_e6, ↓DL.dEq_e7, ↓DL.dEq_e8, ↓DL.dEq_e9, ↓DL.dEq_e10, ↓DL.dEq_e11, ↓DL.dEq_e12, ↓DL.dEq_e13, ↓DL.dEq_e14, ↓DL.dEq_e15, ↓DL.dIsN_e1, DL.isNon_e1, ↓DL.dInS_e1, ↓DL.dIn_e1, ↓DL.dIn_e2, ↓DL.dIn_e3, ↓DL.dIn_e4, ↓DL.dIn_e5, ↓DL.dIn_e6, ↓DL.dInK_e1, ↓DL.dIx_e1, ↓DL.dIx_e2, ↓DL.dIx_e3, ↓DL.dIx_e4, ↓DL.dIx_e5, ↓DL.dIx_e6, ↓DL.kBl_e1, ↓DL.kInt_e1, ↓DL.kTru_e1, ↓DL.kTru_e2, ↓DL.kTru_e3, ↓DL.kTru_e4, ↓DL.kTru_e5, ↓DL.kTru_e6, ↓DL.kTru_e7, ↓DL.kTru_e8, ↓DL.kTru_e9, ↓DL.kRef_e1, ↓DL.kLst_e1, ↓DL.kLst_e2, ↓DL.kTup_e1, ↓DL.kTup_e2, ↓DL.kStr_e1, ↓DL.kRng1_e1, ↓DL.kRng2_e1, ↓DL.kEnum_e1, ↓DL.kEnum_e2, ↓DL.kZip_e1, ↓DL.frzC_e1, ↓DL.frzC_e2, ↓DL.frzC_e3, ↓DL.dSlR_e1, ↓DL.dSlR_e2, ↓DL.dSlR_e3, ↓DL.dSlR_e4, ↓DL.dSlR_e5, ↓DL.dLen_e1, ↓DL.dLen_e2, ↓DL.dLen_e3, ↓DL.dLen_e4, ↓DL.dLen_e5, ↓DL.dLen_e6, ↓DL.dInt_e1, ↓DL.dInt_e2, ↓DL.dInt_e3, ↓DL.dStrI_e1, ↓DL.dIsi_e1, DL.tyName_e1, DL.tyName_e2, DL.tyName_e3, DL.tyName_e4, DL.tyName_e5, DL.tyName_e6, DL.tyName_e7, DL.tyName_e8, DL.tyName_e9, DL.tyName_e10, ↓DL.dApp_e1, ↓DL.dJoin_e1, ↓DL.dSplit_e1, ↓DL.dgNil_e1, ↓DL.dgCons_e1, ↓DL.dgTup_e1, ↓DL.dSetL_e1, ↓DL.dSetD_e1, ↓DL.dSetD_e2, ↓DL.dSetD_e3, ↓DL.dIAdd_e1, ↓DL.dIAdd_e2, ↓DL.dISub_e1, ↓DL.apart_e1, ↓DL.dUpd_e1, ↓DL.dMulS_e1, ↓DL.dInL_e1, ↓DL.endLc_e1, ↓DL.endLc_e2, DL.bindN_e1, DL.setAll_e1, DL.setAll_e2, DL.mTy_e1, DL.mTy_e2, DL.mTy_e3, DL.mTy_e4, DL.strsOf_e1, DL.strsOf_e2, DL.keyD_e1, DL.keyD_e2, DL.keysD_e1, DL.keysD_e2, ↓DL.forW_e1, ↓DL.forW_e2, ↓DL.lcW_e1, ↓DL.lcW_e2, ↓DL.lcG_e1, ↓DL.lcG_e2, ↓DL.lc2W_e1, ↓DL.lc2W_e2, ↓DL.dPairs_e1, ↓DL.dPairs_e2, DL.kvsOf_e1, DL.kvsOf_e2, DL.slot_e1, DL.slot_e2, DL.dwipe_e1, DL.dwipe_e2, DL.enumD_e1, DL.enumD_e2, DL.zipD_e1, DL.dstart_e1, DL.dstart_e2, DL.dstart_e3, DL.flatD_e1, DL.flatD_e2, DL.flatD_e3, DL.flatD_e4, DL.eqF_e1, DL.eqF_e2, DL.eqF_e3, DL.eqF_e4, DL.eqF_e5, DL.eqF_e6, ↓DL.dTupOf_e1, ↓DL.dTupOf_e2, ↓DL.dTupOf_e3, ↓DL.dListOf_e1, ↓DL.dMin2_e1, ↓DL.dExt_e1, ↓DL.dMulL_e1, ↓DL.dIsD_e1, ↓DL.dIsD_e2, ↓DL.dIsD_e3, ↓DL.dSortD_e1, ↓DL.kStr1_e1, DL.klook_e1, ↓DL.dVar_n0, ↓DL.dgName_n0, ↓DL.obind_n0, ↓DL.oslot_n0, ↓DL.dVar_n1, ↓DL.dgName_n1, ↓DL.obind_n1, ↓DL.oslot_n1, ↓DL.dVar_n2, ↓DL.dgName_n2, ↓DL.obind_n2, ↓DL.oslot_n2, ↓DL.dVar_n3, ↓DL.dgName_n3, ↓DL.obind_n3, ↓DL.oslot_n3, ↓DL.dVar_n4, ↓DL.dgName_n4, ↓DL.obind_n4, ↓DL.oslot_n4, ↓DL.dVar_n5, ↓DL.dgName_n5, ↓DL.obind_n5, ↓DL.oslot_n5, ↓DL.dVar_n6, ↓DL.dgName_n6, ↓DL.obind_n6, ↓DL.oslot_n6, ↓DL.dVar_n7, ↓DL.dgName_n7, ↓DL.obind_n7, ↓DL.oslot_n7, ↓DL.dVar_n8, ↓DL.dgName_n8, ↓DL.obind_n8, ↓DL.oslot_n8, ↓DL.dVar_n9, ↓DL.dgName_n9, ↓DL.obind_n9, ↓DL.oslot_n9, ↓DL.dVar_n10, ↓DL.dgName_n10, ↓DL.obind_n10, ↓DL.oslot_n10, ↓DL.dVar_n11, ↓DL.dgName_n11, ↓DL.obind_n11, ↓DL.oslot_n11, ↓DL.dVar_n12, ↓DL.dgName_n12, ↓DL.obind_n12, ↓DL.oslot_n12, ↓DL.dVar_n13, ↓DL.dgName_n13, ↓DL.obind_n13, ↓DL.oslot_n13, ↓DL.dVar_n14, ↓DL.dgName_n14, ↓DL.obind_n14, ↓DL.oslot_n14, ↓DL.dVar_n15, ↓DL.dgName_n15, ↓DL.obind_n15, ↓DL.oslot_n15, ↓DL.dVar_n16, ↓DL.dgName_n16, ↓DL.obind_n16, ↓DL.oslot_n16, ↓DL.dVar_n17, ↓DL.dgName_n17, ↓DL.obind_n17, ↓DL.oslot_n17, ↓DL.dVar_n18, ↓DL.dgName_n18, ↓DL.obind_n18, ↓DL.oslot_n18, ↓DL.dVar_n19, ↓DL.dgName_n19, ↓DL.obind_n19, ↓DL.oslot_n19, ↓DL.dVar_n20, ↓DL.dgName_n20, ↓DL.obind_n20, ↓DL.oslot_n20, ↓DL.dVar_n21, ↓DL.dgName_n21, ↓DL.obind_n21, ↓DL.oslot_n21, ↓DL.dVar_n22, ↓DL.dgName_n22, ↓DL.obind_n22, ↓DL.oslot_n22, ↓DL.dVar_n23, ↓DL.dgName_n23, ↓DL.obind_n23, ↓DL.oslot_n23, ↓DL.dVar_n24, ↓DL.dgName_n24, ↓DL.obind_n24, ↓DL.oslot_n24, ↓DL.dVar_n25, ↓DL.dgName_n25, ↓DL.obind_n25, ↓DL.oslot_n25, ↓DL.dVar_n26, ↓DL.dgName_n26, ↓DL.obind_n26, ↓DL.oslot_n26, ↓DL.dVar_n27, ↓DL.dgName_n27, ↓DL.obind_n27, ↓DL.oslot_n27, ↓DL.dVar_n28, ↓DL.dgName_n28, ↓DL.obind_n28, ↓DL.oslot_n28, ↓DL.dVar_n29, ↓DL.dgName_n29, ↓DL.obind_n29, ↓DL.oslot_n29, ↓DL.isiM_int, ↓DL.subTy_NoneType_int, ↓DL.subTy_bool_int, ↓DL.subTy_int_int, ↓DL.subTy_str_int, ↓DL.subTy_tuple_int, ↓DL.subTy_list_int, ↓DL.subTy_dict_int, ↓DL.isiM_str, ↓DL.subTy_NoneType_str, ↓DL.subTy_bool_str, ↓DL.subTy_int_str, ↓DL.subTy_str_str, ↓DL.subTy_tuple_str, ↓DL.subTy_list_str, ↓DL.subTy_dict_str, ↓DL.isiM_bool, ↓DL.subTy_NoneType_bool, ↓DL.subTy_bool_bool, ↓DL.subTy_int_bool, ↓DL.subTy_str_bool, ↓DL.subTy_tuple_bool, ↓DL.subTy_list_bool, ↓DL.subTy_dict_bool, ↓DL.isiM_list, ↓DL.subTy_NoneType_list, ↓DL.subTy_bool_list, ↓DL.subTy_int_list, ↓DL.subTy_str_list, ↓DL.subTy_tuple_list, ↓DL.subTy_list_list, ↓DL.subTy_dict_list, ↓DL.isiM_tuple, ↓DL.subTy_NoneType_tuple, ↓DL.subTy_bool_tuple, ↓DL.subTy_int_tuple, ↓DL.subTy_str_tuple, ↓DL.subTy_tuple_tuple, ↓DL.subTy_list_tuple, ↓DL.subTy_dict_tuple, ↓DL.isiM_dict, ↓DL.subTy_NoneType_dict, ↓DL.subTy_bool_dict, ↓DL.subTy_int_dict, ↓DL.subTy_str_dict, ↓DL.subTy_tuple_dict, ↓DL.subTy_list_dict, ↓DL.subTy_dict_dict, ↓DL.isNon_tup, ↓DL.isNon_lst, ↓DL.isNon_stup, ↓DL.isNon_slst, ↓DL.isNon_str, ↓DL.isNon_int, ↓DL.isNon_bl, ↓DL.isNon_ref, ↓DL.isNon_dK, ↓DL.isNon_dT, $[$ts:term],*]); (repeat ((with_reducible refine DL.seq_r (fun R hR => ?_)); simp only [DL.cutD_tail, eq_self, Int.reduceEq, List.nil_append, List.cons_append, DL.ofs_eq, String.reduceEq, DL.inD_cons, DL.inD_nil, Bool.or_false, Bool.or_true, Bool.false_or, Bool.true_or, decide_true, decide_false, not_true_eq_false, not_false_eq_true, DL.dPar, ↓DL.kPar_e1, DL.dPar3, ↓DL.kPar3_e1, DL.dGet1, DL.dGet2, DL.dKGet2, DL.dAsg, DL.dVar, DL.dgName, DL.dgLst, DL.dgSub, List.length_cons, List.length_nil, List.set_cons_zero, List.set_cons_succ, DL.dAnd, DL.dOr, DL.dNot, DL.dTest, DL.dTrue, DL.dOp, DL.dCB, DL.dACons, DL.dANil, DL.dInQ, DL.dIxQ, DL.dAug, DL.dC, DL.dRet, DL.dRetF, DL.dRetN, DL.dSl, DL.dPart, DL.dNoPart, DL.dIf, DL.dIfS, DL.dTup, DL.dLstF, DL.dLstO, DL.dDrop, DL.dNever, DL.dNext, DL.dBreak, DL.dCont, DL.dFor, DL.dILst, DL.dITup, DL.dIStr, DL.dIRng1, DL.dIRng2, DL.dIEnum, DL.dIZip, DL.dBM, DL.dBM0, DL.dCall, DL.dAddO, DL.dMulO, ↓DL.kMulO_e1, DL.dLcO, DL.dAndV, DL.dOrV, DL.dNotV, DL.dNeg, DL.dDix, DL.dDin, DL.dDisp, DL.dDispF, DL.dDNew, DL.dLc, DL.dLc2, DL.bind1, DL.dYes, DL.dFrz, List.map_cons, List.map_nil, List.getElem?_cons_succ, List.getElem?_cons_zero, DL.atI_0, DL.atI_1, DL.atI_2, DL.atI_3, DL.atI_4, DL.atI_5, DL.atI_6, DL.atI_7, DL.ixN_0, DL.ixN_1, DL.ixN_2, DL.ixN_3, DL.oset_same, DL.oset_oset, DL.tl_one, DL.tl_ofL, TL.len_tl, DL.atI_nat_, Bool.false_eq_true, Bool.true_eq_false, Bool.not_false, Bool.not_true, if_true, if_false, decide_eq_true_eq, Bool.not_eq_true', Bool.not_eq_true, decide_eq_false_iff_not, Option.isSome_some, Option.isSome_none, List.all_cons, List.all_nil, Bool.and_self, Bool.true_and, Bool.and_true, ↓reduceIte, and_true, true_and, Nat.zero_add, Nat.reduceAdd, Nat.reduceLeDiff, ↓DL.onSome_e1, ↓DL.onL_e1, ↓DL.lstQ_e1, ↓DL.lstQ_e2, ↓DL.seqQ_e1, ↓DL.seqQ_e2, ↓DL.seqQ_e3, ↓DL.seqQ_e4, ↓DL.seqQ_e5, ↓DL.sqlQ_e1, ↓DL.sqlQ_e2, ↓DL.sqlQ_e3, ↓DL.onK_e1, ↓DL.onT_e1, ↓DL.dkQ_e1, ↓DL.dkQ_e2, ↓DL.dtQ_e1, ↓DL.dtQ_e2, ↓DL.findQ_e1, ↓DL.findQ_e2, ↓DL.findQ_e3, ↓DL.dAdd_e1, ↓DL.dAdd_e2, ↓DL.dAdd_e3, ↓DL.dAdd_e4, ↓DL.dAdd_e5, ↓DL.dAdd_e6, ↓DL.dAdd_e7, ↓DL.dI2_e1, ↓DL.dSub_e1, ↓DL.dCmpI_e1, ↓DL.dEq_e1, ↓DL.dEq_e2, ↓DL.dEq_e3, ↓DL.dEq_e4, ↓DL.dEq_e5, ↓DL.dEq_e6, ↓DL.dEq_e7, ↓DL.dEq_e8, ↓DL.dEq_e9, ↓DL.dEq_e10, ↓DL.dEq_e11, ↓DL.dEq_e12, ↓DL.dEq_e13, ↓DL.dEq_e14, ↓DL.dEq_e15, ↓DL.dIsN_e1, DL.isNon_e1, ↓DL.dInS_e1, ↓DL.dIn_e1, ↓DL.dIn_e2, ↓DL.dIn_e3, ↓DL.dIn_e4, ↓DL.dIn_e5, ↓DL.dIn_e6, ↓DL.dInK_e1, ↓DL.dIx_e1, ↓DL.dIx_e2, ↓DL.dIx_e3, ↓DL.dIx_e4, ↓DL.dIx_e5, ↓DL.dIx_e6, ↓DL.kBl_e1, ↓DL.kInt_e1, ↓DL.kTru_e1, ↓DL.kTru_e2, ↓DL.kTru_e3, ↓DL.kTru_e4, ↓DL.kTru_e5, ↓DL.kTru_e6, ↓DL.kTru_e7, ↓DL.kTru_e8, ↓DL.kTru_e9, ↓DL.kRef_e1, ↓DL.kLst_e1, ↓DL.kLst_e2, ↓DL.kTup_e1, ↓DL.kTup_e2, ↓DL.kStr_e1, ↓DL.kRng1_e1, ↓DL.kRng2_e1, ↓DL.kEnum_e1, ↓DL.kEnum_e2, ↓DL.kZip_e1, ↓DL.frzC_e1, ↓DL.frzC_e2, ↓DL.frzC_e3, ↓DL.dSlR_e1, ↓DL.dSlR_e2, ↓DL.dSlR_e3, ↓DL.dSlR_e4, ↓DL.dSlR_e5, ↓DL.dLen_e1, ↓DL.dLen_e2, ↓DL.dLen_e3, ↓DL.dLen_e4, ↓DL.dLen_e5, ↓DL.dLen_e6, ↓DL.dInt_e1, ↓DL.dInt_e2, ↓DL.dInt_e3, ↓DL.dStrI_e1, ↓DL.dIsi_e1, DL.tyName_e1, DL.tyName_e2, DL.tyName_e3, DL.tyName_e4, DL.tyName_e5, DL.tyName_e6, DL.tyName_e7, DL.tyName_e8, DL.tyName_e9, DL.tyName_e10, ↓DL.dApp_e1, ↓DL.dJoin_e1, ↓DL.dSplit_e1, ↓DL.dgNil_e1, ↓DL.dgCons_e1, ↓DL.dgTup_e1, ↓DL.dSetL_e1, ↓DL.dSetD_e1, ↓DL.dSetD_e2, ↓DL.dSetD_e3, ↓DL.dIAdd_e1, ↓DL.dIAdd_e2, ↓DL.dISub_e1, ↓DL.apart_e1, ↓DL.dUpd_e1, ↓DL.dMulS_e1, ↓DL.dInL_e1, ↓DL.endLc_e1, ↓DL.endLc_e2, DL.bindN_e1, DL.setAll_e1, DL.setAll_e2, DL.mTy_e1, DL.mTy_e2, DL.mTy_e3, DL.mTy_e4, DL.strsOf_e1, DL.strsOf_e2, DL.keyD_e1, DL.keyD_e2, DL.keysD_e1, DL.keysD_e2, ↓DL.forW_e1, ↓DL.forW_e2, ↓DL.lcW_e1, ↓DL.lcW_e2, ↓DL.lcG_e1, ↓DL.lcG_e2, ↓DL.lc2W_e1, ↓DL.lc2W_e2, ↓DL.dPairs_e1, ↓DL.dPairs_e2, DL.kvsOf_e1, DL.kvsOf_e2, DL.slot_e1, DL.slot_e2, DL.dwipe_e1, DL.dwipe_e2, DL.enumD_e1, DL.enumD_e2, DL.zipD_e1, DL.dstart_e1, DL.dstart_e2, DL.dstart_e3, DL.flatD_e1, DL.flatD_e2, DL.flatD_e3, DL.flatD_e4, DL.eqF_e1, DL.eqF_e2, DL.eqF_e3, DL.eqF_e4, DL.eqF_e5, DL.eqF_e6, ↓DL.dTupOf_e1, ↓DL.dTupOf_e2, ↓DL.dTupOf_e3, ↓DL.dListOf_e1, ↓DL.dMin2_e1, ↓DL.dExt_e1, ↓DL.dMulL_e1, ↓DL.dIsD_e1, ↓DL.dIsD_e2, ↓DL.dIsD_e3, ↓DL.dSortD_e1, ↓DL.kStr1_e1, DL.klook_e1, ↓DL.dVar_n0, ↓DL.dgName_n0, ↓DL.obind_n0, ↓DL.oslot_n0, ↓DL.dVar_n1, ↓DL.dgName_n1, ↓DL.obind_n1, ↓DL.oslot_n1, ↓DL.dVar_n2, ↓DL.dgName_n2, ↓DL.obind_n2, ↓DL.oslot_n2, ↓DL.dVar_n3, ↓DL.dgName_n3, ↓DL.obind_n3, ↓DL.oslot_n3, ↓DL.dVar_n4, ↓DL.dgName_n4, ↓DL.obind_n4, ↓DL.oslot_n4, ↓DL.dVar_n5, ↓DL.dgName_n5, ↓DL.obind_n5, ↓DL.oslot_n5, ↓DL.dVar_n6, ↓DL.dgName_n6, ↓DL.obind_n6, ↓DL.oslot_n6, ↓DL.dVar_n7, ↓DL.dgName_n7, ↓DL.obind_n7, ↓DL.oslot_n7, ↓DL.dVar_n8, ↓DL.dgName_n8, ↓DL.obind_n8, ↓DL.oslot_n8, ↓DL.dVar_n9, ↓DL.dgName_n9, ↓DL.obind_n9, ↓DL.oslot_n9, ↓DL.dVar_n10, ↓DL.dgName_n10, ↓DL.obind_n10, ↓DL.oslot_n10, ↓DL.dVar_n11, ↓DL.dgName_n11, ↓DL.obind_n11, ↓DL.oslot_n11, ↓DL.dVar_n12, ↓DL.dgName_n12, ↓DL.obind_n12, ↓DL.oslot_n12, ↓DL.dVar_n13, ↓DL.dgName_n13, ↓DL.obind_n13, ↓DL.oslot_n13, ↓DL.dVar_n14, ↓DL.dgName_n14, ↓DL.obind_n14, ↓DL.oslot_n14, ↓DL.dVar_n15, ↓DL.dgName_n15, ↓DL.obind_n15, ↓DL.oslot_n15, ↓DL.dVar_n16, ↓DL.dgName_n16, ↓DL.obind_n16, ↓DL.oslot_n16, ↓DL.dVar_n17, ↓DL.dgName_n17, ↓DL.obind_n17, ↓DL.oslot_n17, ↓DL.dVar_n18, ↓DL.dgName_n18, ↓DL.obind_n18, ↓DL.oslot_n18, ↓DL.dVar_n19, ↓DL.dgName_n19, ↓DL.obind_n19, ↓DL.oslot_n19, ↓DL.dVar_n20, ↓DL.dgName_n20, ↓DL.obind_n20, ↓DL.oslot_n20, ↓DL.dVar_n21, ↓DL.dgName_n21, ↓DL.obind_n21, ↓DL.oslot_n21, ↓DL.dVar_n22, ↓DL.dgName_n22, ↓DL.obind_n22, ↓DL.oslot_n22, ↓DL.dVar_n23, ↓DL.dgName_n23, ↓DL.obind_n23, ↓DL.oslot_n23, ↓DL.dVar_n24, ↓DL.dgName_n24, ↓DL.obind_n24, ↓DL.oslot_n24, ↓DL.dVar_n25, ↓DL.dgName_n25, ↓DL.obind_n25, ↓DL.oslot_n25, ↓DL.dVar_n26, ↓DL.dgName_n26, ↓DL.obind_n26, ↓DL.oslot_n26, ↓DL.dVar_n27, ↓DL.dgName_n27, ↓DL.obind_n27, ↓DL.oslot_n27, ↓DL.dVar_n28, ↓DL.dgName_n28, ↓DL.obind_n28, ↓DL.oslot_n28, ↓DL.dVar_n29, ↓DL.dgName_n29, ↓DL.obind_n29, ↓DL.oslot_n29, ↓DL.isiM_int, ↓DL.subTy_NoneType_int, ↓DL.subTy_bool_int, ↓DL.subTy_int_int, ↓DL.subTy_str_int, ↓DL.subTy_tuple_int, ↓DL.subTy_list_int, ↓DL.subTy_dict_int, ↓DL.isiM_str, ↓DL.subTy_NoneType_str, ↓DL.subTy_bool_str, ↓DL.subTy_int_str, ↓DL.subTy_str_str, ↓DL.subTy_tuple_str, ↓DL.subTy_list_str, ↓DL.subTy_dict_str, ↓DL.isiM_bool, ↓DL.subTy_NoneType_bool, ↓DL.subTy_bool_bool, ↓DL.subTy_int_bool, ↓DL.subTy_str_bool, ↓DL.subTy_tuple_bool, ↓DL.subTy_list_bool, ↓DL.subTy_dict_bool, ↓DL.isiM_list, ↓DL.subTy_NoneType_list, ↓DL.subTy_bool_list, ↓DL.subTy_int_list, ↓DL.subTy_str_list, ↓DL.subTy_tuple_list, ↓DL.subTy_list_list, ↓DL.subTy_dict_list, ↓DL.isiM_tuple, ↓DL.subTy_NoneType_tuple, ↓DL.subTy_bool_tuple, ↓DL.subTy_int_tuple, ↓DL.subTy_str_tuple, ↓DL.subTy_tuple_tuple, ↓DL.subTy_list_tuple, ↓DL.subTy_dict_tuple, ↓DL.isiM_dict, ↓DL.subTy_NoneType_dict, ↓DL.subTy_bool_dict, ↓DL.subTy_int_dict, ↓DL.subTy_str_dict, ↓DL.subTy_tuple_dict, ↓DL.subTy_list_dict, ↓DL.subTy_dict_dict, ↓DL.isNon_tup, ↓DL.isNon_lst, ↓DL.isNon_stup, ↓DL.isNon_slst, ↓DL.isNon_str, ↓DL.isNon_int, ↓DL.isNon_bl, ↓DL.isNon_ref, ↓DL.isNon_dK, ↓DL.isNon_dT, $[$ts:term],*]; subst hR)); (try simp only [DL.cutD_tail, eq_self, Int.reduceEq, List.nil_append, List.cons_append, DL.ofs_eq, String.reduceEq, DL.inD_cons, DL.inD_nil, Bool.or_false, Bool.or_true, Bool.false_or, Bool.true_or, decide_true, decide_false, not_true_eq_false, not_false_eq_true, DL.dPar, ↓DL.kPar_e1, DL.dPar3, ↓DL.kPar3_e1, DL.dGet1, DL.dGet2, DL.dKGet2, DL.dAsg, DL.dVar, DL.dgName, DL.dgLst, DL.dgSub, List.length_cons, List.length_nil, List.set_cons_zero, List.set_cons_succ, DL.dAnd, DL.dOr, DL.dNot, DL.dTest, DL.dTrue, DL.dOp, DL.dCB, DL.dACons, DL.dANil, DL.dInQ, DL.dIxQ, DL.dAug, DL.dC, DL.dRet, DL.dRetF, DL.dRetN, DL.dSl, DL.dPart, DL.dNoPart, DL.dIf, DL.dIfS, DL.dTup, DL.dLstF, DL.dLstO, DL.dDrop, DL.dNever, DL.dNext, DL.dBreak, DL.dCont, DL.dFor, DL.dILst, DL.dITup, DL.dIStr, DL.dIRng1, DL.dIRng2, DL.dIEnum, DL.dIZip, DL.dBM, DL.dBM0, DL.dCall, DL.dAddO, DL.dMulO, ↓DL.kMulO_e1, DL.dLcO, DL.dAndV, DL.dOrV, DL.dNotV, DL.dNeg, DL.dDix, DL.dDin, DL.dDisp, DL.dDispF, DL.dDNew, DL.dLc, DL.dLc2, DL.bind1, DL.dYes, DL.dFrz, List.map_cons, List.map_nil, List.getElem?_cons_succ, List.getElem?_cons_zero, DL.atI_0, DL.atI_1, DL.atI_2, DL.atI_3, DL.atI_4, DL.atI_5, DL.atI_6, DL.atI_7, DL.ixN_0, DL.ixN_1, DL.ixN_2, DL.ixN_3, DL.oset_same, DL.oset_oset, DL.tl_one, DL.tl_ofL, TL.len_tl, DL.atI_nat_, Bool.false_eq_true, Bool.true_eq_false, Bool.not_false, Bool.not_true, if_true, if_false, decide_eq_true_eq, Bool.not_eq_true', Bool.not_eq_true, decide_eq_false_iff_not, Option.isSome_some, Option.isSome_none, List.all_cons, List.all_nil, Bool.and_self, Bool.true_and, Bool.and_true, ↓reduceIte, and_true, true_and, Nat.zero_add, Nat.reduceAdd, Nat.reduceLeDiff, ↓DL.onSome_e1, ↓DL.onL_e1, ↓DL.lstQ_e1, ↓DL.lstQ_e2, ↓DL.seqQ_e1, ↓DL.seqQ_e2, ↓DL.seqQ_e3, ↓DL.seqQ_e4, ↓DL.seqQ_e5, ↓DL.sqlQ_e1, ↓DL.sqlQ_e2, ↓DL.sqlQ_e3, ↓DL.onK_e1, ↓DL.onT_e1, ↓DL.dkQ_e1, ↓DL.dkQ_e2, ↓DL.dtQ_e1, ↓DL.dtQ_e2, ↓DL.findQ_e1, ↓DL.findQ_e2, ↓DL.findQ_e3, ↓DL.dAdd_e1, ↓DL.dAdd_e2, ↓DL.dAdd_e3, ↓DL.dAdd_e4, ↓DL.dAdd_e5, ↓DL.dAdd_e6, ↓DL.dAdd_e7, ↓DL.dI2_e1, ↓DL.dSub_e1, ↓DL.dCmpI_e1, ↓DL.dEq_e1, ↓DL.dEq_e2, ↓DL.dEq_e3, ↓DL.dEq_e4, ↓DL.dEq_e5, ↓DL.dEq_e6, ↓DL.dEq_e7, ↓DL.dEq_e8, ↓DL.dEq_e9, ↓DL.dEq_e10, ↓DL.dEq_e11, ↓DL.dEq_e12, ↓DL.dEq_e13, ↓DL.dEq_e14, ↓DL.dEq_e15, ↓DL.dIsN_e1, DL.isNon_e1, ↓DL.dInS_e1, ↓DL.dIn_e1, ↓DL.dIn_e2, ↓DL.dIn_e3, ↓DL.dIn_e4, ↓DL.dIn_e5, ↓DL.dIn_e6, ↓DL.dInK_e1, ↓DL.dIx_e1, ↓DL.dIx_e2, ↓DL.dIx_e3, ↓DL.dIx_e4, ↓DL.dIx_e5, ↓DL.dIx_e6, ↓DL.kBl_e1, ↓DL.kInt_e1, ↓DL.kTru_e1, ↓DL.kTru_e2, ↓DL.kTru_e3, ↓DL.kTru_e4, ↓DL.kTru_e5, ↓DL.kTru_e6, ↓DL.kTru_e7, ↓DL.kTru_e8, ↓DL.kTru_e9, ↓DL.kRef_e1, ↓DL.kLst_e1, ↓DL.kLst_e2, ↓DL.kTup_e1, ↓DL.kTup_e2, ↓DL.kStr_e1, ↓DL.kRng1_e1, ↓DL.kRng2_e1, ↓DL.kEnum_e1, ↓DL.kEnum_e2, ↓DL.kZip_e1, ↓DL.frzC_e1, ↓DL.frzC_e2, ↓DL.frzC_e3, ↓DL.dSlR_e1, ↓DL.dSlR_e2, ↓DL.dSlR_e3, ↓DL.dSlR_e4, ↓DL.dSlR_e5, ↓DL.dLen_e1, ↓DL.dLen_e2, ↓DL.dLen_e3, ↓DL.dLen_e4, ↓DL.dLen_e5, ↓DL.dLen_e6, ↓DL.dInt_e1, ↓DL.dInt_e2, ↓DL.dInt_e3, ↓DL.dStrI_e1, ↓DL.dIsi_e1, DL.tyName_e1, DL.tyName_e2, DL.tyName_e3, DL.tyName_e4, DL.tyName_e5, DL.tyName_e6, DL.tyName_e7, DL.tyName_e8, DL.tyName_e9, DL.tyName_e10, ↓DL.dApp_e1, ↓DL.dJoin_e1, ↓DL.dSplit_e1, ↓DL.dgNil_e1, ↓DL.dgCons_e1, ↓DL.dgTup_e1, ↓DL.dSetL_e1, ↓DL.dSetD_e1, ↓DL.dSetD_e2, ↓DL.dSetD_e3, ↓DL.dIAdd_e1, ↓DL.dIAdd_e2, ↓DL.dISub_e1, ↓DL.apart_e1, ↓DL.dUpd_e1, ↓DL.dMulS_e1, ↓DL.dInL_e1, ↓DL.endLc_e1, ↓DL.endLc_e2, DL.bindN_e1, DL.setAll_e1, DL.setAll_e2, DL.mTy_e1, DL.mTy_e2, DL.mTy_e3, DL.mTy_e4, DL.strsOf_e1, DL.strsOf_e2, DL.keyD_e1, DL.keyD_e2, DL.keysD_e1, DL.keysD_e2, ↓DL.forW_e1, ↓DL.forW_e2, ↓DL.lcW_e1, ↓DL.lcW_e2, ↓DL.lcG_e1, ↓DL.lcG_e2, ↓DL.lc2W_e1, ↓DL.lc2W_e2, ↓DL.dPairs_e1, ↓DL.dPairs_e2, DL.kvsOf_e1, DL.kvsOf_e2, DL.slot_e1, DL.slot_e2, DL.dwipe_e1, DL.dwipe_e2, DL.enumD_e1, DL.enumD_e2, DL.zipD_e1, DL.dstart_e1, DL.dstart_e2, DL.dstart_e3, DL.flatD_e1, DL.flatD_e2, DL.flatD_e3, DL.flatD_e4, DL.eqF_e1, DL.eqF_e2, DL.eqF_e3, DL.eqF_e4, DL.eqF_e5, DL.eqF_e6, ↓DL.dTupOf_e1, ↓DL.dTupOf_e2, ↓DL.dTupOf_e3, ↓DL.dListOf_e1, ↓DL.dMin2_e1, ↓DL.dExt_e1, ↓DL.dMulL_e1, ↓DL.dIsD_e1, ↓DL.dIsD_e2, ↓DL.dIsD_e3, ↓DL.dSortD_e1, ↓DL.kStr1_e1, DL.klook_e1, ↓DL.dVar_n0, ↓DL.dgName_n0, ↓DL.obind_n0, ↓DL.oslot_n0, ↓DL.dVar_n1, ↓DL.dgName_n1, ↓DL.obind_n1, ↓DL.oslot_n1, ↓DL.dVar_n2, ↓DL.dgName_n2, ↓DL.obind_n2, ↓DL.oslot_n2, ↓DL.dVar_n3, ↓DL.dgName_n3, ↓DL.obind_n3, ↓DL.oslot_n3, ↓DL.dVar_n4, ↓DL.dgName_n4, ↓DL.obind_n4, ↓DL.oslot_n4, ↓DL.dVar_n5, ↓DL.dgName_n5, ↓DL.obind_n5, ↓DL.oslot_n5, ↓DL.dVar_n6, ↓DL.dgName_n6, ↓DL.obind_n6, ↓DL.oslot_n6, ↓DL.dVar_n7, ↓DL.dgName_n7, ↓DL.obind_n7, ↓DL.oslot_n7, ↓DL.dVar_n8, ↓DL.dgName_n8, ↓DL.obind_n8, ↓DL.oslot_n8, ↓DL.dVar_n9, ↓DL.dgName_n9, ↓DL.obind_n9, ↓DL.oslot_n9, ↓DL.dVar_n10, ↓DL.dgName_n10, ↓DL.obind_n10, ↓DL.oslot_n10, ↓DL.dVar_n11, ↓DL.dgName_n11, ↓DL.obind_n11, ↓DL.oslot_n11, ↓DL.dVar_n12, ↓DL.dgName_n12, ↓DL.obind_n12, ↓DL.oslot_n12, ↓DL.dVar_n13, ↓DL.dgName_n13, ↓DL.obind_n13, ↓DL.oslot_n13, ↓DL.dVar_n14, ↓DL.dgName_n14, ↓DL.obind_n14, ↓DL.oslot_n14, ↓DL.dVar_n15, ↓DL.dgName_n15, ↓DL.obind_n15, ↓DL.oslot_n15, ↓DL.dVar_n16, ↓DL.dgName_n16, ↓DL.obind_n16, ↓DL.oslot_n16, ↓DL.dVar_n17, ↓DL.dgName_n17, ↓DL.obind_n17, ↓DL.oslot_n17, ↓DL.dVar_n18, ↓DL.dgName_n18, ↓DL.obind_n18, ↓DL.oslot_n18, ↓DL.dVar_n19, ↓DL.dgName_n19, ↓DL.obind_n19, ↓DL.oslot_n19, ↓DL.dVar_n20, ↓DL.dgName_n20, ↓DL.obind_n20, ↓DL.oslot_n20, ↓DL.dVar_n21, ↓DL.dgName_n21, ↓DL.obind_n21, ↓DL.oslot_n21, ↓DL.dVar_n22, ↓DL.dgName_n22, ↓DL.obind_n22, ↓DL.oslot_n22, ↓DL.dVar_n23, ↓DL.dgName_n23, ↓DL.obind_n23, ↓DL.oslot_n23, ↓DL.dVar_n24, ↓DL.dgName_n24, ↓DL.obind_n24, ↓DL.oslot_n24, ↓DL.dVar_n25, ↓DL.dgName_n25, ↓DL.obind_n25, ↓DL.oslot_n25, ↓DL.dVar_n26, ↓DL.dgName_n26, ↓DL.obind_n26, ↓DL.oslot_n26, ↓DL.dVar_n27, ↓DL.dgName_n27, ↓DL.obind_n27, ↓DL.oslot_n27, ↓DL.dVar_n28, ↓DL.dgName_n28, ↓DL.obind_n28, ↓DL.oslot_n28, ↓DL.dVar_n29, ↓DL.dgName_n29, ↓DL.obind_n29, ↓DL.oslot_n29, ↓DL.isiM_int, ↓DL.subTy_NoneType_int, ↓DL.subTy_bool_int, ↓DL.subTy_int_int, ↓DL.subTy_str_int, ↓DL.subTy_tuple_int, ↓DL.subTy_list_int, ↓DL.subTy_dict_int, ↓DL.isiM_str, ↓DL.subTy_NoneType_str, ↓DL.subTy_bool_str, ↓DL.subTy_int_str, ↓DL.subTy_str_str, ↓DL.subTy_tuple_str, ↓DL.subTy_list_str, ↓DL.subTy_dict_str, ↓DL.isiM_bool, ↓DL.subTy_NoneType_bool, ↓DL.subTy_bool_bool, ↓DL.subTy_int_bool, ↓DL.subTy_str_bool, ↓DL.subTy_tuple_bool, ↓DL.subTy_list_bool, ↓DL.subTy_dict_bool, ↓DL.isiM_list, ↓DL.subTy_NoneType_list, ↓DL.subTy_bool_list, ↓DL.subTy_int_list, ↓DL.subTy_str_list, ↓DL.subTy_tuple_list, ↓DL.subTy_list_list, ↓DL.subTy_dict_list, ↓DL.isiM_tuple, ↓DL.subTy_NoneType_tuple, ↓DL.subTy_bool_tuple, ↓DL.subTy_int_tuple, ↓DL.subTy_str_tuple, ↓DL.subTy_tuple_tuple, ↓DL.subTy_list_tuple, ↓DL.subTy_dict_tuple, ↓DL.isiM_dict, ↓DL.subTy_NoneType_dict, ↓DL.subTy_bool_dict, ↓DL.subTy_int_dict, ↓DL.subTy_str_dict, ↓DL.subTy_tuple_dict, ↓DL.subTy_list_dict, ↓DL.subTy_dict_dict, ↓DL.isNon_tup, ↓DL.isNon_lst, ↓DL.isNon_stup, ↓DL.isNon_slst, ↓DL.isNon_str, ↓DL.isNon_int, ↓DL.isNon_bl, ↓DL.isNon_ref, ↓DL.isNon_dK, ↓DL.isNon_dT, $[$ts:term],*])))))
local macro_rules | `(tactic| walk_at "ev") => `(tactic| ((try simp only [DL.cutD_tail, eq_self, Int.reduceEq, List.nil_append, List.cons_append, DL.ofs_eq, String.reduceEq, DL.inD_cons, DL.inD_nil, Bool.or_false, Bool.or_true, Bool.false_or, Bool.true_or, decide_true, decide_false, not_true_eq_false, not_false_eq_true, DL.dPar, ↓DL.kPar_e1, DL.dPar3, ↓DL.kPar3_e1, DL.dGet1, DL.dGet2, DL.dKGet2, DL.dAsg, DL.dVar, DL.dgName, DL.dgLst, DL.dgSub, List.length_cons, List.length_nil, List.set_cons_zero, List.set_cons_succ, DL.dAnd, DL.dOr, DL.dNot, DL.dTest, DL.dTrue, DL.dOp, DL.dCB, DL.dACons, DL.dANil, DL.dInQ, DL.dIxQ, DL.dAug, DL.dC, DL.dRet, DL.dRetF, DL.dRetN, DL.dSl, DL.dPart, DL.dNoPart, DL.dIf, DL.dIfS, DL.dTup, DL.dLstF, DL.dLstO, DL.dDrop, DL.dNever, DL.dNext, DL.dBreak, DL.dCont, DL.dFor, DL.dILst, DL.dITup, DL.dIStr, DL.dIRng1, DL.dIRng2, DL.dIEnum, DL.dIZip, DL.dBM, DL.dBM0, DL.dCall, DL.dAddO, DL.dMulO, ↓DL.kMulO_e1, DL.dLcO, DL.dAndV, DL.dOrV, DL.dNotV, DL.dNeg, DL.dDix, DL.dDin, DL.dDisp, DL.dDispF, DL.dDNew, DL.dLc, DL.dLc2, DL.bind1, DL.dYes, DL.dFrz, List.map_cons, List.map_nil, List.getElem?_cons_succ, List.getElem?_cons_zero, DL.atI_0, DL.atI_1, DL.atI_2, DL.atI_3, DL.atI_4, DL.atI_5, DL.atI_6, DL.atI_7, DL.ixN_0, DL.ixN_1, DL.ixN_2, DL.ixN_3, DL.oset_same, DL.oset_oset, DL.tl_one, DL.tl_ofL, TL.len_tl, DL.atI_nat_, Bool.false_eq_true, Bool.true_eq_false, Bool.not_false, Bool.not_true, if_true, if_false, decide_eq_true_eq, Bool.not_eq_true', Bool.not_eq_true, decide_eq_false_iff_not, Option.isSome_some, Option.isSome_none, List.all_cons, List.all_nil, Bool.and_self, Bool.true_and, Bool.and_true, ↓reduceIte, and_true, true_and, Nat.zero_add, Nat.reduceAdd, Nat.reduceLeDiff, ↓DL.onSome_e1, ↓DL.onL_e1, ↓DL.lstQ_e1, ↓DL.lstQ_e2, ↓DL.seqQ_e1, ↓DL.seqQ_e2, ↓DL.seqQ_e3, ↓DL.seqQ_e4, ↓DL.seqQ_e5, ↓DL.sqlQ_e1, ↓DL.sqlQ_e2, ↓DL.sqlQ_e3, ↓DL.onK_e1, ↓DL.onT_e1, ↓DL.dkQ_e1, ↓DL.dkQ_e2, ↓DL.dtQ_e1, ↓DL.dtQ_e2, ↓DL.findQ_e1, ↓DL.findQ_e2, ↓DL.findQ_e3, ↓DL.dAdd_e1, ↓DL.dAdd_e2, ↓DL.dAdd_e3, ↓DL.dAdd_e4, ↓DL.dAdd_e5, ↓DL.dAdd_e6, ↓DL.dAdd_e7, ↓DL.dI2_e1, ↓DL.dSub_e1, ↓DL.dCmpI_e1, ↓DL.dEq_e1, ↓DL.dEq_e2, ↓DL.dEq_e3, ↓DL.dEq_e4, ↓DL.dEq_e5, ↓DL.dEq_e6, ↓DL.dEq_e7, ↓DL.dEq_e8, ↓DL.dEq_e9, ↓DL.dEq_e10, ↓DL.dEq_e11, ↓DL.dEq_e12, ↓DL.dEq_e13, ↓DL.dEq_e14, ↓DL.dEq_e15, ↓DL.dIsN_e1, DL.isNon_e1, ↓DL.dInS_e1, ↓DL.dIn_e1, ↓DL.dIn_e2, ↓DL.dIn_e3, ↓DL.dIn_e4, ↓DL.dIn_e5, ↓DL.dIn_e6, ↓DL.dInK_e1, ↓DL.dIx_e1, ↓DL.dIx_e2, ↓DL.dIx_e3, ↓DL.dIx_e4, ↓DL.dIx_e5, ↓DL.dIx_e6, ↓DL.kBl_e1, ↓DL.kInt_e1, ↓DL.kTru_e1, ↓DL.kTru_e2, ↓DL.kTru_e3, ↓DL.kTru_e4, ↓DL.kTru_e5, ↓DL.kTru_e6, ↓DL.kTru_e7, ↓DL.kTru_e8, ↓DL.kTru_e9, ↓DL.kRef_e1, ↓DL.kLst_e1, ↓DL.kLst_e2, ↓DL.kTup_e1, ↓DL.kTup_e2, ↓DL.kStr_e1, ↓DL.kRng1_e1, ↓DL.kRng2_e1, ↓DL.kEnum_e1, ↓DL.kEnum_e2, ↓DL.kZip_e1, ↓DL.frzC_e1, ↓DL.frzC_e2, ↓DL.frzC_e3, ↓DL.dSlR_e1, ↓DL.dSlR_e2, ↓DL.dSlR_e3, ↓DL.dSlR_e4, ↓DL.dSlR_e5, ↓DL.dLen_e1, ↓DL.dLen_e2, ↓DL.dLen_e3, ↓DL.dLen_e4, ↓DL.dLen_e5, ↓DL.dLen_e6, ↓DL.dInt_e1, ↓DL.dInt_e2, ↓DL.dInt_e3, ↓DL.dStrI_e1, ↓DL.dIsi_e1, DL.tyName_e1, DL.tyName_e2, DL.tyName_e3, DL.tyName_e4, DL.tyName_e5, DL.tyName_e6, DL.tyName_e7, DL.tyName_e8, DL.tyName_e9, DL.tyName_e10, ↓DL.dApp_e1, ↓DL.dJoin_e1, ↓DL.dSplit_e1, ↓DL.dgNil_e1, ↓DL.dgCons_e1, ↓DL.dgTup_e1, ↓DL.dSetL_e1, ↓DL.dSetD_e1, ↓DL.dSetD_e2, ↓DL.dSetD_e3, ↓DL.dIAdd_e1, ↓DL.dIAdd_e2, ↓DL.dISub_e1, ↓DL.apart_e1, ↓DL.dUpd_e1, ↓DL.dMulS_e1, ↓DL.dInL_e1, ↓DL.endLc_e1, ↓DL.endLc_e2, DL.bindN_e1, DL.setAll_e1, DL.setAll_e2, DL.mTy_e1, DL.mTy_e2, DL.mTy_e3, DL.mTy_e4, DL.strsOf_e1, DL.strsOf_e2, DL.keyD_e1, DL.keyD_e2, DL.keysD_e1, DL.keysD_e2, ↓DL.forW_e1, ↓DL.forW_e2, ↓DL.lcW_e1, ↓DL.lcW_e2, ↓DL.lcG_e1, ↓DL.lcG_e2, ↓DL.lc2W_e1, ↓DL.lc2W_e2, ↓DL.dPairs_e1, ↓DL.dPairs_e2, DL.kvsOf_e1, DL.kvsOf_e2, DL.slot_e1, DL.slot_e2, DL.dwipe_e1, DL.dwipe_e2, DL.enumD_e1, DL.enumD_e2, DL.zipD_e1, DL.dstart_e1, DL.dstart_e2, DL.dstart_e3, DL.flatD_e1, DL.flatD_e2, DL.flatD_e3, DL.flatD_e4, DL.eqF_e1, DL.eqF_e2, DL.eqF_e3, DL.eqF_e4, DL.eqF_e5, DL.eqF_e6, ↓DL.dTupOf_e1, ↓DL.dTupOf_e2, ↓DL.dTupOf_e3, ↓DL.dListOf_e1, ↓DL.dMin2_e1, ↓DL.dExt_e1, ↓DL.dMulL_e1, ↓DL.dIsD_e1, ↓DL.dIsD_e2, ↓DL.dIsD_e3, ↓DL.dSortD_e1, ↓DL.kStr1_e1, DL.klook_e1, ↓DL.dVar_n0, ↓DL.dgName_n0, ↓DL.obind_n0, ↓DL.oslot_n0, ↓DL.dVar_n1, ↓DL.dgName_n1, ↓DL.obind_n1, ↓DL.oslot_n1, ↓DL.dVar_n2, ↓DL.dgName_n2, ↓DL.obind_n2, ↓DL.oslot_n2, ↓DL.dVar_n3, ↓DL.dgName_n3, ↓DL.obind_n3, ↓DL.oslot_n3, ↓DL.dVar_n4, ↓DL.dgName_n4, ↓DL.obind_n4, ↓DL.oslot_n4, ↓DL.dVar_n5, ↓DL.dgName_n5, ↓DL.obind_n5, ↓DL.oslot_n5, ↓DL.dVar_n6, ↓DL.dgName_n6, ↓DL.obind_n6, ↓DL.oslot_n6, ↓DL.dVar_n7, ↓DL.dgName_n7, ↓DL.obind_n7, ↓DL.oslot_n7, ↓DL.dVar_n8, ↓DL.dgName_n8, ↓DL.obind_n8, ↓DL.oslot_n8, ↓DL.dVar_n9, ↓DL.dgName_n9, ↓DL.obind_n9, ↓DL.oslot_n9, ↓DL.dVar_n10, ↓DL.dgName_n10, ↓DL.obind_n10, ↓DL.oslot_n10, ↓DL.dVar_n11, ↓DL.dgName_n11, ↓DL.obind_n11, ↓DL.oslot_n11, ↓DL.dVar_n12, ↓DL.dgName_n12, ↓DL.obind_n12, ↓DL.oslot_n12, ↓DL.dVar_n13, ↓DL.dgName_n13, ↓DL.obind_n13, ↓DL.oslot_n13, ↓DL.dVar_n14, ↓DL.dgName_n14, ↓DL.obind_n14, ↓DL.oslot_n14, ↓DL.dVar_n15, ↓DL.dgName_n15, ↓DL.obind_n15, ↓DL.oslot_n15, ↓DL.dVar_n16, ↓DL.dgName_n16, ↓DL.obind_n16, ↓DL.oslot_n16, ↓DL.dVar_n17, ↓DL.dgName_n17, ↓DL.obind_n17, ↓DL.oslot_n17, ↓DL.dVar_n18, ↓DL.dgName_n18, ↓DL.obind_n18, ↓DL.oslot_n18, ↓DL.dVar_n19, ↓DL.dgName_n19, ↓DL.obind_n19, ↓DL.oslot_n19, ↓DL.dVar_n20, ↓DL.dgName_n20, ↓DL.obind_n20, ↓DL.oslot_n20, ↓DL.dVar_n21, ↓DL.dgName_n21, ↓DL.obind_n21, ↓DL.oslot_n21, ↓DL.dVar_n22, ↓DL.dgName_n22, ↓DL.obind_n22, ↓DL.oslot_n22, ↓DL.dVar_n23, ↓DL.dgName_n23, ↓DL.obind_n23, ↓DL.oslot_n23, ↓DL.dVar_n24, ↓DL.dgName_n24, ↓DL.obind_n24, ↓DL.oslot_n24, ↓DL.dVar_n25, ↓DL.dgName_n25, ↓DL.obind_n25, ↓DL.oslot_n25, ↓DL.dVar_n26, ↓DL.dgName_n26, ↓DL.obind_n26, ↓DL.oslot_n26, ↓DL.dVar_n27, ↓DL.dgName_n27, ↓DL.obind_n27, ↓DL.oslot_n27, ↓DL.dVar_n28, ↓DL.dgName_n28, ↓DL.obind_n28, ↓DL.oslot_n28, ↓DL.dVar_n29, ↓DL.dgName_n29, ↓DL.obind_n29, ↓DL.oslot_n29, ↓DL.isiM_int, ↓DL.subTy_NoneType_int, ↓DL.subTy_bool_int, ↓DL.subTy_int_int, ↓DL.subTy_str_int, ↓DL.subTy_tuple_int, ↓DL.subTy_list_int, ↓DL.subTy_dict_int, ↓DL.isiM_str, ↓DL.subTy_NoneType_str, ↓DL.subTy_bool_str, ↓DL.subTy_int_str, ↓DL.subTy_str_str, ↓DL.subTy_tuple_str, ↓DL.subTy_list_str, ↓DL.subTy_dict_str, ↓DL.isiM_bool, ↓DL.subTy_NoneType_bool, ↓DL.subTy_bool_bool, ↓DL.subTy_int_bool, ↓DL.subTy_str_bool, ↓DL.subTy_tuple_bool, ↓DL.subTy_list_bool, ↓DL.subTy_dict_bool, ↓DL.isiM_list, ↓DL.subTy_NoneType_list, ↓DL.subTy_bool_list, ↓DL.subTy_int_list, ↓DL.subTy_str_list, ↓DL.subTy_tuple_list, ↓DL.subTy_list_list, ↓DL.subTy_dict_list, ↓DL.isiM_tuple, ↓DL.subTy_NoneType_tuple, ↓DL.subTy_bool_tuple, ↓DL.subTy_int_tuple, ↓DL.subTy_str_tuple, ↓DL.subTy_tuple_tuple, ↓DL.subTy_list_tuple, ↓DL.subTy_dict_tuple, ↓DL.isiM_dict, ↓DL.subTy_NoneType_dict, ↓DL.subTy_bool_dict, ↓DL.subTy_int_dict, ↓DL.subTy_str_dict, ↓DL.subTy_tuple_dict, ↓DL.subTy_list_dict, ↓DL.subTy_dict_dict, ↓DL.isNon_tup, ↓DL.isNon_lst, ↓DL.isNon_stup, ↓DL.isNon_slst, ↓DL.isNon_str, ↓DL.isNon_int, ↓DL.isNon_bl, ↓DL.isNon_ref, ↓DL.isNon_dK, ↓DL.isNon_dT]); (repeat ((with_reducible refine DL.seq_r (fun R hR => ?_)); simp only [DL.cutD_tail, eq_self, Int.reduceEq, List.nil_append, List.cons_append, DL.ofs_eq, String.reduceEq, DL.inD_cons, DL.inD_nil, Bool.or_false, Bool.or_true, Bool.false_or, Bool.true_or, decide_true, decide_false, not_true_eq_false, not_false_eq_true, DL.dPar, ↓DL.kPar_e1, DL.dPar3, ↓DL.kPar3_e1, DL.dGet1, DL.dGet2, DL.dKGet2, DL.dAsg, DL.dVar, DL.dgName, DL.dgLst, DL.dgSub, List.length_cons, List.length_nil, List.set_cons_zero, List.set_cons_succ, DL.dAnd, DL.dOr, DL.dNot, DL.dTest, DL.dTrue, DL.dOp, DL.dCB, DL.dACons, DL.dANil, DL.dInQ, DL.dIxQ, DL.dAug, DL.dC, DL.dRet, DL.dRetF, DL.dRetN, DL.dSl, DL.dPart, DL.dNoPart, DL.dIf, DL.dIfS, DL.dTup, DL.dLstF, DL.dLstO, DL.dDrop, DL.dNever, DL.dNext, DL.dBreak, DL.dCont, DL.dFor, DL.dILst, DL.dITup, DL.dIStr, DL.dIRng1, DL.dIRng2, DL.dIEnum, DL.dIZip, DL.dBM, DL.dBM0, DL.dCall, DL.dAddO, DL.dMulO, ↓DL.kMulO_e1, DL.dLcO, DL.dAndV, DL.dOrV, DL.dNotV, DL.dNeg, DL.dDix, DL.dDin, DL.dDisp, DL.dDispF, DL.dDNew, DL.dLc, DL.dLc2, DL.bind1, DL.dYes, DL.dFrz, List.map_cons, List.map_nil, List.getElem?_cons_succ, List.getElem?_cons_zero, DL.atI_0, DL.atI_1, DL.atI_2, DL.atI_3, DL.atI_4, DL.atI_5, DL.atI_6, DL.atI_7, DL.ixN_0, DL.ixN_1, DL.ixN_2, DL.ixN_3, DL.oset_same, DL.oset_oset, DL.tl_one, DL.tl_ofL, TL.len_tl, DL.atI_nat_, Bool.false_eq_true, Bool.true_eq_false, Bool.not_false, Bool.not_true, if_true, if_false, decide_eq_true_eq, Bool.not_eq_true', Bool.not_eq_true, decide_eq_false_iff_not, Option.isSome_some, Option.isSome_none, List.all_cons, List.all_nil, Bool.and_self, Bool.true_and, Bool.and_true, ↓reduceIte, and_true, true_and, Nat.zero_add, Nat.reduceAdd, Nat.reduceLeDiff, ↓DL.onSome_e1, ↓DL.onL_e1, ↓DL.lstQ_e1, ↓DL.lstQ_e2, ↓DL.seqQ_e1, ↓DL.seqQ_e2, ↓DL.seqQ_e3, ↓DL.seqQ_e4, ↓DL.seqQ_e5, ↓DL.sqlQ_e1, ↓DL.sqlQ_e2, ↓DL.sqlQ_e3, ↓DL.onK_e1, ↓DL.onT_e1, ↓DL.dkQ_e1, ↓DL.dkQ_e2, ↓DL.dtQ_e1, ↓DL.dtQ_e2, ↓DL.findQ_e1, ↓DL.findQ_e2, ↓DL.findQ_e3, ↓DL.dAdd_e1, ↓DL.dAdd_e2, ↓DL.dAdd_e3, ↓DL.dAdd_e4, ↓DL.dAdd_e5, ↓DL.dAdd_e6, ↓DL.dAdd_e7, ↓DL.dI2_e1, ↓DL.dSub_e1, ↓DL.dCmpI_e1, ↓DL.dEq_e1, ↓DL.dEq_e2, ↓DL.dEq_e3, ↓DL.dEq_e4, ↓DL.dEq_e5, ↓DL.dEq_e6, ↓DL.dEq_e7, ↓DL.dEq_e8, ↓DL.dEq_e9, ↓DL.dEq_e10, ↓DL.dEq_e11, ↓DL.dEq_e12, ↓DL.dEq_e13, ↓DL.dEq_e14, ↓DL.dEq_e15, ↓DL.dIsN_e1, DL.isNon_e1, ↓DL.dInS_e1, ↓DL.dIn_e1, ↓DL.dIn_e2, ↓DL.dIn_e3, ↓DL.dIn_e4, ↓DL.dIn_e5, ↓DL.dIn_e6, ↓DL.dInK_e1, ↓DL.dIx_e1, ↓DL.dIx_e2, ↓DL.dIx_e3, ↓DL.dIx_e4, ↓DL.dIx_e5, ↓DL.dIx_e6, ↓DL.kBl_e1, ↓DL.kInt_e1, ↓DL.kTru_e1, ↓DL.kTru_e2, ↓DL.kTru_e3, ↓DL.kTru_e4, ↓DL.kTru_e5, ↓DL.kTru_e6, ↓DL.kTru_e7, ↓DL.kTru_e8, ↓DL.kTru_e9, ↓DL.kRef_e1, ↓DL.kLst_e1, ↓DL.kLst_e2, ↓DL.kTup_e1, ↓DL.kTup_e2, ↓DL.kStr_e1, ↓DL.kRng1_e1, ↓DL.kRng2_e1, ↓DL.kEnum_e1, ↓DL.kEnum_e2, ↓DL.kZip_e1, ↓DL.frzC_e1, ↓DL.frzC_e2, ↓DL.frzC_e3, ↓DL.dSlR_e1, ↓DL.dSlR_e2, ↓DL.dSlR_e3, ↓DL.dSlR_e4, ↓DL.dSlR_e5, ↓DL.dLen_e1, ↓DL.dLen_e2, ↓DL.dLen_e3, ↓DL.dLen_e4, ↓DL.dLen_e5, ↓DL.dLen_e6, ↓DL.dInt_e1, ↓DL.dInt_e2, ↓DL.dInt_e3, ↓DL.dStrI_e1, ↓DL.dIsi_e1, DL.tyName_e1, DL.tyName_e2, DL.tyName_e3, DL.tyName_e4, DL.tyName_e5, DL.tyName_e6, DL.tyName_e7, DL.tyName_e8, DL.tyName_e9, DL.tyName_e10, ↓DL.dApp_e1, ↓DL.dJoin_e1, ↓DL.dSplit_e1, ↓DL.dgNil_e1, ↓DL.dgCons_e1, ↓DL.dgTup_e1, ↓DL.dSetL_e1, ↓DL.dSetD_e1, ↓DL.dSetD_e2, ↓DL.dSetD_e3, ↓DL.dIAdd_e1, ↓DL.dIAdd_e2, ↓DL.dISub_e1, ↓DL.apart_e1, ↓DL.dUpd_e1, ↓DL.dMulS_e1, ↓DL.dInL_e1, ↓DL.endLc_e1, ↓DL.endLc_e2, DL.bindN_e1, DL.setAll_e1, DL.setAll_e2, DL.mTy_e1, DL.mTy_e2, DL.mTy_e3, DL.mTy_e4, DL.strsOf_e1, DL.strsOf_e2, DL.keyD_e1, DL.keyD_e2, DL.keysD_e1, DL.keysD_e2, ↓DL.forW_e1, ↓DL.forW_e2, ↓DL.lcW_e1, ↓DL.lcW_e2, ↓DL.lcG_e1, ↓DL.lcG_e2, ↓DL.lc2W_e1, ↓DL.lc2W_e2, ↓DL.dPairs_e1, ↓DL.dPairs_e2, DL.kvsOf_e1, DL.kvsOf_e2, DL.slot_e1, DL.slot_e2, DL.dwipe_e1, DL.dwipe_e2, DL.enumD_e1, DL.enumD_e2, DL.zipD_e1, DL.dstart_e1, DL.dstart_e2, DL.dstart_e3, DL.flatD_e1, DL.flatD_e2, DL.flatD_e3, DL.flatD_e4, DL.eqF_e1, DL.eqF_e2, DL.eqF_e3, DL.eqF_e4, DL.eqF_e5, DL.eqF_e6, ↓DL.dTupOf_e1, ↓DL.dTupOf_e2, ↓DL.dTupOf_e3, ↓DL.dListOf_e1, ↓DL.dMin2_e1, ↓DL.dExt_e1, ↓DL.dMulL_e1, ↓DL.dIsD_e1, ↓DL.dIsD_e2, ↓DL.dIsD_e3, ↓DL.dSortD_e1, ↓DL.kStr1_e1, DL.klook_e1, ↓DL.dVar_n0, ↓DL.dgName_n0, ↓DL.obind_n0, ↓DL.oslot_n0, ↓DL.dVar_n1, ↓DL.dgName_n1, ↓DL.obind_n1, ↓DL.oslot_n1, ↓DL.dVar_n2, ↓DL.dgName_n2, ↓DL.obind_n2, ↓DL.oslot_n2, ↓DL.dVar_n3, ↓DL.dgName_n3, ↓DL.obind_n3, ↓DL.oslot_n3, ↓DL.dVar_n4, ↓DL.dgName_n4, ↓DL.obind_n4, ↓DL.oslot_n4, ↓DL.dVar_n5, ↓DL.dgName_n5, ↓DL.obind_n5, ↓DL.oslot_n5, ↓DL.dVar_n6, ↓DL.dgName_n6, ↓DL.obind_n6, ↓DL.oslot_n6, ↓DL.dVar_n7, ↓DL.dgName_n7, ↓DL.obind_n7, ↓DL.oslot_n7, ↓DL.dVar_n8, ↓DL.dgName_n8, ↓DL.obind_n8, ↓DL.oslot_n8, ↓DL.dVar_n9, ↓DL.dgName_n9, ↓DL.obind_n9, ↓DL.oslot_n9, ↓DL.dVar_n10, ↓DL.dgName_n10, ↓DL.obind_n10, ↓DL.oslot_n10, ↓DL.dVar_n11, ↓DL.dgName_n11, ↓DL.obind_n11, ↓DL.oslot_n11, ↓DL.dVar_n12, ↓DL.dgName_n12, ↓DL.obind_n12, ↓DL.oslot_n12, ↓DL.dVar_n13, ↓DL.dgName_n13, ↓DL.obind_n13, ↓DL.oslot_n13, ↓DL.dVar_n14, ↓DL.dgName_n14, ↓DL.obind_n14, ↓DL.oslot_n14, ↓DL.dVar_n15, ↓DL.dgName_n15, ↓DL.obind_n15, ↓DL.oslot_n15, ↓DL.dVar_n16, ↓DL.dgName_n16, ↓DL.obind_n16, ↓DL.oslot_n16, ↓DL.dVar_n17, ↓DL.dgName_n17, ↓DL.obind_n17, ↓DL.oslot_n17, ↓DL.dVar_n18, ↓DL.dgName_n18, ↓DL.obind_n18, ↓DL.oslot_n18, ↓DL.dVar_n19, ↓DL.dgName_n19, ↓DL.obind_n19, ↓DL.oslot_n19, ↓DL.dVar_n20, ↓DL.dgName_n20, ↓DL.obind_n20, ↓DL.oslot_n20, ↓DL.dVar_n21, ↓DL.dgName_n21, ↓DL.obind_n21, ↓DL.oslot_n21, ↓DL.dVar_n22, ↓DL.dgName_n22, ↓DL.obind_n22, ↓DL.oslot_n22, ↓DL.dVar_n23, ↓DL.dgName_n23, ↓DL.obind_n23, ↓DL.oslot_n23, ↓DL.dVar_n24, ↓DL.dgName_n24, ↓DL.obind_n24, ↓DL.oslot_n24, ↓DL.dVar_n25, ↓DL.dgName_n25, ↓DL.obind_n25, ↓DL.oslot_n25, ↓DL.dVar_n26, ↓DL.dgName_n26, ↓DL.obind_n26, ↓DL.oslot_n26, ↓DL.dVar_n27, ↓DL.dgName_n27, ↓DL.obind_n27, ↓DL.oslot_n27, ↓DL.dVar_n28, ↓DL.dgName_n28, ↓DL.obind_n28, ↓DL.oslot_n28, ↓DL.dVar_n29, ↓DL.dgName_n29, ↓DL.obind_n29, ↓DL.oslot_n29, ↓DL.isiM_int, ↓DL.subTy_NoneType_int, ↓DL.subTy_bool_int, ↓DL.subTy_int_int, ↓DL.subTy_str_int, ↓DL.subTy_tuple_int, ↓DL.subTy_list_int, ↓DL.subTy_dict_int, ↓DL.isiM_str, ↓DL.subTy_NoneType_str, ↓DL.subTy_bool_str, ↓DL.subTy_int_str, ↓DL.subTy_str_str, ↓DL.subTy_tuple_str, ↓DL.subTy_list_str, ↓DL.subTy_dict_str, ↓DL.isiM_bool, ↓DL.subTy_NoneType_bool, ↓DL.subTy_bool_bool, ↓DL.subTy_int_bool, ↓DL.subTy_str_bool, ↓DL.subTy_tuple_bool, ↓DL.subTy_list_bool, ↓DL.subTy_dict_bool, ↓DL.isiM_list, ↓DL.subTy_NoneType_list, ↓DL.subTy_bool_list, ↓DL.subTy_int_list, ↓DL.subTy_str_list, ↓DL.subTy_tuple_list, ↓DL.subTy_list_list, ↓DL.subTy_dict_list, ↓DL.isiM_tuple, ↓DL.subTy_NoneType_tuple, ↓DL.subTy_bool_tuple, ↓DL.subTy_int_tuple, ↓DL.subTy_str_tuple, ↓DL.subTy_tuple_tuple, ↓DL.subTy_list_tuple, ↓DL.subTy_dict_tuple, ↓DL.isiM_dict, ↓DL.subTy_NoneType_dict, ↓DL.subTy_bool_dict, ↓DL.subTy_int_dict, ↓DL.subTy_str_dict, ↓DL.subTy_tuple_dict, ↓DL.subTy_list_dict, ↓DL.subTy_dict_dict, ↓DL.isNon_tup, ↓DL.isNon_lst, ↓DL.isNon_stup, ↓DL.isNon_slst, ↓DL.isNon_str, ↓DL.isNon_int, ↓DL.isNon_bl, ↓DL.isNon_ref, ↓DL.isNon_dK, ↓DL.isNon_dT]; subst hR)); (try simp only [DL.cutD_tail, eq_self, Int.reduceEq, List.nil_append, List.cons_append, DL.ofs_eq, String.reduceEq, DL.inD_cons, DL.inD_nil, Bool.or_false, Bool.or_true, Bool.false_or, Bool.true_or, decide_true, decide_false, not_true_eq_false, not_false_eq_true, DL.dPar, ↓DL.kPar_e1, DL.dPar3, ↓DL.kPar3_e1, DL.dGet1, DL.dGet2, DL.dKGet2, DL.dAsg, DL.dVar, DL.dgName, DL.dgLst, DL.dgSub, List.length_cons, List.length_nil, List.set_cons_zero, List.set_cons_succ, DL.dAnd, DL.dOr, DL.dNot, DL.dTest, DL.dTrue, DL.dOp, DL.dCB, DL.dACons, DL.dANil, DL.dInQ, DL.dIxQ, DL.dAug, DL.dC, DL.dRet, DL.dRetF, DL.dRetN, DL.dSl, DL.dPart, DL.dNoPart, DL.dIf, DL.dIfS, DL.dTup, DL.dLstF, DL.dLstO, DL.dDrop, DL.dNever, DL.dNext, DL.dBreak, DL.dCont, DL.dFor, DL.dILst, DL.dITup, DL.dIStr, DL.dIRng1, DL.dIRng2, DL.dIEnum, DL.dIZip, DL.dBM, DL.dBM0, DL.dCall, DL.dAddO, DL.dMulO, ↓DL.kMulO_e1, DL.dLcO, DL.dAndV, DL.dOrV, DL.dNotV, DL.dNeg, DL.dDix, DL.dDin, DL.dDisp, DL.dDispF, DL.dDNew, DL.dLc, DL.dLc2, DL.bind1, DL.dYes, DL.dFrz, List.map_cons, List.map_nil, List.getElem?_cons_succ, List.getElem?_cons_zero, DL.atI_0, DL.atI_1, DL.atI_2, DL.atI_3, DL.atI_4, DL.atI_5, DL.atI_6, DL.atI_7, DL.ixN_0, DL.ixN_1, DL.ixN_2, DL.ixN_3, DL.oset_same, DL.oset_oset, DL.tl_one, DL.tl_ofL, TL.len_tl, DL.atI_nat_, Bool.false_eq_true, Bool.true_eq_false, Bool.not_false, Bool.not_true, if_true, if_false, decide_eq_true_eq, Bool.not_eq_true', Bool.not_eq_true, decide_eq_false_iff_not, Option.isSome_some, Option.isSome_none, List.all_cons, List.all_nil, Bool.and_self, Bool.true_and, Bool.and_true, ↓reduceIte, and_true, true_and, Nat.zero_add, Nat.reduceAdd, Nat.reduceLeDiff, ↓DL.onSome_e1, ↓DL.onL_e1, ↓DL.lstQ_e1, ↓DL.lstQ_e2, ↓DL.seqQ_e1, ↓DL.seqQ_e2, ↓DL.seqQ_e3, ↓DL.seqQ_e4, ↓DL.seqQ_e5, ↓DL.sqlQ_e1, ↓DL.sqlQ_e2, ↓DL.sqlQ_e3, ↓DL.onK_e1, ↓DL.onT_e1, ↓DL.dkQ_e1, ↓DL.dkQ_e2, ↓DL.dtQ_e1, ↓DL.dtQ_e2, ↓DL.findQ_e1, ↓DL.findQ_e2, ↓DL.findQ_e3, ↓DL.dAdd_e1, ↓DL.dAdd_e2, ↓DL.dAdd_e3, ↓DL.dAdd_e4, ↓DL.dAdd_e5, ↓DL.dAdd_e6, ↓DL.dAdd_e7, ↓DL.dI2_e1, ↓DL.dSub_e1, ↓DL.dCmpI_e1, ↓DL.dEq_e1, ↓DL.dEq_e2, ↓DL.dEq_e3, ↓DL.dEq_e4, ↓DL.dEq_e5, ↓DL.dEq_e6, ↓DL.dEq_e7, ↓DL.dEq_e8, ↓DL.dEq_e9, ↓DL.dEq_e10, ↓DL.dEq_e11, ↓DL.dEq_e12, ↓DL.dEq_e13, ↓DL.dEq_e14, ↓DL.dEq_e15, ↓DL.dIsN_e1, DL.isNon_e1, ↓DL.dInS_e1, ↓DL.dIn_e1, ↓DL.dIn_e2, ↓DL.dIn_e3, ↓DL.dIn_e4, ↓DL.dIn_e5, ↓DL.dIn_e6, ↓DL.dInK_e1, ↓DL.dIx_e1, ↓DL.dIx_e2, ↓DL.dIx_e3, ↓DL.dIx_e4, ↓DL.dIx_e5, ↓DL.dIx_e6, ↓DL.kBl_e1, ↓DL.kInt_e1, ↓DL.kTru_e1, ↓DL.kTru_e2, ↓DL.kTru_e3, ↓DL.kTru_e4, ↓DL.kTru_e5, ↓DL.kTru_e6, ↓DL.kTru_e7, ↓DL.kTru_e8, ↓DL.kTru_e9, ↓DL.kRef_e1, ↓DL.kLst_e1, ↓DL.kLst_e2, ↓DL.kTup_e1, ↓DL.kTup_e2, ↓DL.kStr_e1, ↓DL.kRng1_e1, ↓DL.kRng2_e1, ↓DL.kEnum_e1, ↓DL.kEnum_e2, ↓DL.kZip_e1, ↓DL.frzC_e1, ↓DL.frzC_e2, ↓DL.frzC_e3, ↓DL.dSlR_e1, ↓DL.dSlR_e2, ↓DL.dSlR_e3, ↓DL.dSlR_e4, ↓DL.dSlR_e5, ↓DL.dLen_e1, ↓DL.dLen_e2, ↓DL.dLen_e3, ↓DL.dLen_e4, ↓DL.dLen_e5, ↓DL.dLen_e6, ↓DL.dInt_e1, ↓DL.dInt_e2, ↓DL.dInt_e3, ↓DL.dStrI_e1, ↓DL.dIsi_e1, DL.tyName_e1, DL.tyName_e2, DL.tyName_e3, DL.tyName_e4, DL.tyName_e5, DL.tyName_e6, DL.tyName_e7, DL.tyName_e8, DL.tyName_e9, DL.tyName_e10, ↓DL.dApp_e1, ↓DL.dJoin_e1, ↓DL.dSplit_e1, ↓DL.dgNil_e1, ↓DL.dgCons_e1, ↓DL.dgTup_e1, ↓DL.dSetL_e1, ↓DL.dSetD_e1, ↓DL.dSetD_e2, ↓DL.dSetD_e3, ↓DL.dIAdd_e1, ↓DL.dIAdd_e2, ↓DL.dISub_e1, ↓DL.apart_e1, ↓DL.dUpd_e1, ↓DL.dMulS_e1, ↓DL.dInL_e1, ↓DL.endLc_e1, ↓DL.endLc_e2, DL.bindN_e1, DL.setAll_e1, DL.setAll_e2, DL.mTy_e1, DL.mTy_e2, DL.mTy_e3, DL.mTy_e4, DL.strsOf_e1, DL.strsOf_e2, DL.keyD_e1, DL.keyD_e2, DL.keysD_e1, DL.keysD_e2, ↓DL.forW_e1, ↓DL.forW_e2, ↓DL.lcW_e1, ↓DL.lcW_e2, ↓DL.lcG_e1, ↓DL.lcG_e2, ↓DL.lc2W_e1, ↓DL.lc2W_e2, ↓DL.dPairs_e1, ↓DL.dPairs_e2, DL.kvsOf_e1, DL.kvsOf_e2, DL.slot_e1, DL.slot_e2, DL.dwipe_e1, DL.dwipe_e2, DL.enumD_e1, DL.enumD_e2, DL.zipD_e1, DL.dstart_e1, DL.dstart_e2, DL.dstart_e3, DL.flatD_e1, DL.flatD_e2, DL.flatD_e3, DL.flatD_e4, DL.eqF_e1, DL.eqF_e2, DL.eqF_e3, DL.eqF_e4, DL.eqF_e5, DL.eqF_e6, ↓DL.dTupOf_e1, ↓DL.dTupOf_e2, ↓DL.dTupOf_e3, ↓DL.dListOf_e1, ↓DL.dMin2_e1, ↓DL.dExt_e1, ↓DL.dMulL_e1, ↓DL.dIsD_e1, ↓DL.dIsD_e2, ↓DL.dIsD_e3, ↓DL.dSortD_e1, ↓DL.kStr1_e1, DL.klook_e1, ↓DL.dVar_n0, ↓DL.dgName_n0, ↓DL.obind_n0, ↓DL.oslot_n0, ↓DL.dVar_n1, ↓DL.dgName_n1, ↓DL.obind_n1, ↓DL.oslot_n1, ↓DL.dVar_n2, ↓DL.dgName_n2, ↓DL.obind_n2, ↓DL.oslot_n2, ↓DL.dVar_n3, ↓DL.dgName_n3, ↓DL.obind_n3, ↓DL.oslot_n3, ↓DL.dVar_n4, ↓DL.dgName_n4, ↓DL.obind_n4, ↓DL.oslot_n4, ↓DL.dVar_n5, ↓DL.dgName_n5, ↓DL.obind_n5, ↓DL.oslot_n5, ↓DL.dVar_n6, ↓DL.dgName_n6, ↓DL.obind_n6, ↓DL.oslot_n6, ↓DL.dVar_n7, ↓DL.dgName_n7, ↓DL.obind_n7, ↓DL.oslot_n7, ↓DL.dVar_n8, ↓DL.dgName_n8, ↓DL.obind_n8, ↓DL.oslot_n8, ↓DL.dVar_n9, ↓DL.dgName_n9, ↓DL.obind_n9, ↓DL.oslot_n9, ↓DL.dVar_n10, ↓DL.dgName_n10, ↓DL.obind_n10, ↓DL.oslot_n10, ↓DL.dVar_n11, ↓DL.dgName_n11, ↓DL.obind_n11, ↓DL.oslot_n11, ↓DL.dVar_n12, ↓DL.dgName_n12, ↓DL.obind_n12, ↓DL.oslot_n12, ↓DL.dVar_n13, ↓DL.dgName_n13, ↓DL.obind_n13, ↓DL.oslot_n13, ↓DL.dVar_n14, ↓DL.dgName_n14, ↓DL.obind_n14, ↓DL.oslot_n14, ↓DL.dVar_n15, ↓DL.dgName_n15, ↓DL.obind_n15, ↓DL.oslot_n15, ↓DL.dVar_n16, ↓DL.dgName_n16, ↓DL.obind_n16, ↓DL.oslot_n16, ↓DL.dVar_n17, ↓DL.dgName_n17, ↓DL.obind_n17, ↓DL.oslot_n17, ↓DL.dVar_n18, ↓DL.dgName_n18, ↓DL.obind_n18, ↓DL.oslot_n18, ↓DL.dVar_n19, ↓DL.dgName_n19, ↓DL.obind_n19, ↓DL.oslot_n19, ↓DL.dVar_n20, ↓DL.dgName_n20, ↓DL.obind_n20, ↓DL.oslot_n20, ↓DL.dVar_n21, ↓DL.dgName_n21, ↓DL.obind_n21, ↓DL.oslot_n21, ↓DL.dVar_n22, ↓DL.dgName_n22, ↓DL.obind_n22, ↓DL.oslot_n22, ↓DL.dVar_n23, ↓DL.dgName_n23, ↓DL.obind_n23, ↓DL.oslot_n23, ↓DL.dVar_n24, ↓DL.dgName_n24, ↓DL.obind_n24, ↓DL.oslot_n24, ↓DL.dVar_n25, ↓DL.dgName_n25, ↓DL.obind_n25, ↓DL.oslot_n25, ↓DL.dVar_n26, ↓DL.dgName_n26, ↓DL.obind_n26, ↓DL.oslot_n26, ↓DL.dVar_n27, ↓DL.dgName_n27, ↓DL.obind_n27, ↓DL.oslot_n27, ↓DL.dVar_n28, ↓DL.dgName_n28, ↓DL.obind_n28, ↓DL.oslot_n28, ↓DL.dVar_n29, ↓DL.dgName_n29, ↓DL.obind_n29, ↓DL.oslot_n29, ↓DL.isiM_int, ↓DL.subTy_NoneType_int, ↓DL.subTy_bool_int, ↓DL.subTy_int_int, ↓DL.subTy_str_int, ↓DL.subTy_tuple_int, ↓DL.subTy_list_int, ↓DL.subTy_dict_int, ↓DL.isiM_str, ↓DL.subTy_NoneType_str, ↓DL.subTy_bool_str, ↓DL.subTy_int_str, ↓DL.subTy_str_str, ↓DL.subTy_tuple_str, ↓DL.subTy_list_str, ↓DL.subTy_dict_str, ↓DL.isiM_bool, ↓DL.subTy_NoneType_bool, ↓DL.subTy_bool_bool, ↓DL.subTy_int_bool, ↓DL.subTy_str_bool, ↓DL.subTy_tuple_bool, ↓DL.subTy_list_bool, ↓DL.subTy_dict_bool, ↓DL.isiM_list, ↓DL.subTy_NoneType_list, ↓DL.subTy_bool_list, ↓DL.subTy_int_list, ↓DL.subTy_str_list, ↓DL.subTy_tuple_list, ↓DL.subTy_list_list, ↓DL.subTy_dict_list, ↓DL.isiM_tuple, ↓DL.subTy_NoneType_tuple, ↓DL.subTy_bool_tuple, ↓DL.subTy_int_tuple, ↓DL.subTy_str_tuple, ↓DL.subTy_tuple_tuple, ↓DL.subTy_list_tuple, ↓DL.subTy_dict_tuple, ↓DL.isiM_dict, ↓DL.subTy_NoneType_dict, ↓DL.subTy_bool_dict, ↓DL.subTy_int_dict, ↓DL.subTy_str_dict, ↓DL.subTy_tuple_dict, ↓DL.subTy_list_dict, ↓DL.subTy_dict_dict, ↓DL.isNon_tup, ↓DL.isNon_lst, ↓DL.isNon_stup, ↓DL.isNon_slst, ↓DL.isNon_str, ↓DL.isNon_int, ↓DL.isNon_bl, ↓DL.isNon_ref, ↓DL.isNon_dK, ↓DL.isNon_dT])))
local macro_rules | `(tactic| walk_at "sz") => `(tactic| first | assumption | omega | exact ⟨by omega, by omega⟩ | exact Or.inl ⟨by omega, by omega⟩ | exact Or.inr ⟨by omega, by omega⟩ | exact ⟨by decide, by decide, by decide⟩ | (refine DL.line_of ?_; (try simp only [len_tl, DL.app_len, List.length_map, List.length_append, List.length_cons, List.length_nil, lit0, lit1, lit2, lit3, lit4, lit5, lit6, lit7, lit8, lit9, lit10, lit11, lit12, lit13, lit14, lit15, lit16, lit17, lit18, lit19, lit20, lit21, lit22, lit23, lit24, lit25, lit26, lit27, lit28, lit29, lit30, lit31, lit32, lit33, lit34, lit35, lit36, lit37, lit38, lit39, lit40, lit41, lit42, lit43, lit44, lit45, lit46, lit47, lit48, lit49, lit50, lit51, lit52, lit53, lit54, lit55]); omega) | (refine DL.lc_line ?_; (try simp only [len_tl, DL.app_len, List.length_map, List.length_append, List.length_cons, List.length_nil, lit0, lit1, lit2, lit3, lit4, lit5, lit6, lit7, lit8, lit9, lit10, lit11, lit12, lit13, lit14, lit15, lit16, lit17, lit18, lit19, lit20, lit21, lit22, lit23, lit24, lit25, lit26, lit27, lit28, lit29, lit30, lit31, lit32, lit33, lit34, lit35, lit36, lit37, lit38, lit39, lit40, lit41, lit42, lit43, lit44, lit45, lit46, lit47, lit48, lit49, lit50, lit51, lit52, lit53, lit54, lit55]); omega) | ((try simp only [len_tl, DL.app_len, List.length_map, List.length_append, List.length_cons, List.length_nil, lit0, lit1, lit2, lit3, lit4, lit5, lit6, lit7, lit8, lit9, lit10, lit11, lit12, lit13, lit14, lit15, lit16, lit17, lit18, lit19, lit20, lit21, lit22, lit23, lit24, lit25, lit26, lit27, lit28, lit29, lit30, lit31, lit32, lit33, lit34, lit35, lit36, lit37, lit38, lit39, lit40, lit41, lit42, lit43, lit44, lit45, lit46, lit47, lit48, lit49, lit50, lit51, lit52, lit53, lit54, lit55]); omega))
local macro_rules | `(tactic| walk_at "go") => `(tactic| ((try (walk_at "ev")); (repeat ((with_reducible refine And.intro ?_ ?_); (walk_at "sz"); (try (walk_at "ev"))))))
def top (i : Nat) : Stmt := PySem.Challenge.pw_wholetongue_k06_trees_written_one_way.main.body.getD i (.Pass ⟨0, 0, 0, 0⟩)
structure FnAt (K : PySem.W.Frag) (mg : Str → Option Value) (x : Str) (st : Stmt) (ps : List Str) (f : Addr) (fd : FuncData) : Prop where
  fn : Fun K x x st f fd
  bi : Binds K fd ps []
  mg : mg x = some (.ref f)
theorem bb_str : bootBuiltins "str" = some (.type "str") := by decide +kernel
theorem bb_int : bootBuiltins "int" = some (.type "int") := by decide +kernel
theorem bb_len : bootBuiltins "len" = some (.builtin "len") := by decide +kernel
theorem bb_isinstance : bootBuiltins "isinstance" = some (.builtin "isinstance") := by decide +kernel
theorem bb_tuple : bootBuiltins "tuple" = some (.type "tuple") := by decide +kernel
theorem bb_list : bootBuiltins "list" = some (.type "list") := by decide +kernel
theorem bb_bool : bootBuiltins "bool" = some (.type "bool") := by decide +kernel
theorem bb_range : bootBuiltins "range" = some (.type "range") := by decide +kernel
theorem bb_min : bootBuiltins "min" = some (.builtin "min") := by decide +kernel
theorem bb_sorted : bootBuiltins "sorted" = some (.builtin "sorted") := by decide +kernel
abbrev s_worth_text : Stmt := top 5
abbrev N_worth_text : List Str := ["e", "level", "word", "mine", "found", "left"]
theorem sc_worth_text : FnScope N_worth_text ["e", "level"] (defScope s_worth_text) := ⟨rfl, rfl, rfl, by decide +kernel, rfl, by decide +kernel, by decide +kernel⟩
abbrev s_named_text : Stmt := top 6
abbrev N_named_text : List Str := ["e", "found", "other"]
theorem sc_named_text : FnScope N_named_text ["e"] (defScope s_named_text) := ⟨rfl, rfl, rfl, by decide +kernel, rfl, by decide +kernel, by decide +kernel⟩
abbrev s_row_texts : Stmt := top 7
abbrev N_row_texts : List Str := ["row", "ahead", "word", "found"]
theorem sc_row_texts : FnScope N_row_texts ["row", "ahead"] (defScope s_row_texts) := ⟨rfl, rfl, rfl, by decide +kernel, rfl, by decide +kernel, by decide +kernel⟩
abbrev s_block_texts : Stmt := top 8
abbrev N_block_texts : List Str := ["rows", "ahead", "row", "text"]
theorem sc_block_texts : FnScope N_block_texts ["rows", "ahead"] (defScope s_block_texts) := ⟨rfl, rfl, rfl, by decide +kernel, rfl, by decide +kernel, by decide +kernel⟩
abbrev s_told_texts : Stmt := top 9
abbrev N_told_texts : List Str := ["one", "first", "parts", "head", "place", "name", "kind"]
theorem sc_told_texts : FnScope N_told_texts ["one"] (defScope s_told_texts) := ⟨rfl, rfl, rfl, by decide +kernel, rfl, by decide +kernel, by decide +kernel⟩
abbrev s_text_of : Stmt := top 10
abbrev N_text_of : List Str := ["tree", "uses", "told", "rows", "one", "text", "place", "file"]
theorem sc_text_of : FnScope N_text_of ["tree"] (defScope s_text_of) := ⟨rfl, rfl, rfl, by decide +kernel, rfl, by decide +kernel, by decide +kernel⟩
abbrev s__law_dice : Stmt := top 12
abbrev N__law_dice : List Str := ["_law_script", "_law_mixed", "_law_cell"]
theorem sc__law_dice : FnScope N__law_dice ["_law_script"] (defScope s__law_dice) := ⟨rfl, rfl, rfl, by decide +kernel, rfl, by decide +kernel, by decide +kernel⟩
abbrev s__law_next : Stmt := top 13
abbrev N__law_next : List Str := ["_law_dice_here", "_law_many", "_law_found", "_law_cell"]
theorem sc__law_next : FnScope N__law_next ["_law_dice_here", "_law_many"] (defScope s__law_next) := ⟨rfl, rfl, rfl, by decide +kernel, rfl, by decide +kernel, by decide +kernel⟩
abbrev s__law_like : Stmt := top 14
abbrev N__law_like : List Str := ["_law_found", "_law_due", "_law_k"]
theorem sc__law_like : FnScope N__law_like ["_law_found", "_law_due"] (defScope s__law_like) := ⟨rfl, rfl, rfl, by decide +kernel, rfl, by decide +kernel, by decide +kernel⟩
abbrev s__law_pick : Stmt := top 15
abbrev N__law_pick : List Str := ["_law_d", "_law_some"]
theorem sc__law_pick : FnScope N__law_pick ["_law_d", "_law_some"] (defScope s__law_pick) := ⟨rfl, rfl, rfl, by decide +kernel, rfl, by decide +kernel, by decide +kernel⟩
abbrev s__law_word : Stmt := top 16
abbrev N__law_word : List Str := ["_law_d", "_law_used", "_law_found", "_law_k"]
theorem sc__law_word : FnScope N__law_word ["_law_d", "_law_used"] (defScope s__law_word) := ⟨rfl, rfl, rfl, by decide +kernel, rfl, by decide +kernel, by decide +kernel⟩
abbrev s__law_e : Stmt := top 17
abbrev N__law_e : List Str := ["_law_d", "_law_kind", "_law_c", "_law_deep", "_law_names", "_law_defs", "_law_way", "_law_sign", "_law_within", "_law_one", "_law_numbers", "_law_part"]
theorem sc__law_e : FnScope N__law_e ["_law_d", "_law_kind", "_law_c", "_law_deep"] (defScope s__law_e) := ⟨rfl, rfl, rfl, by decide +kernel, rfl, by decide +kernel, by decide +kernel⟩
abbrev s__law_rows : Stmt := top 18
abbrev N__law_rows : List Str := ["_law_d", "_law_c", "_law_deep", "_law_many", "_law_found", "_law_names", "_law_sets", "_law_k"]
theorem sc__law_rows : FnScope N__law_rows ["_law_d", "_law_c", "_law_deep", "_law_many"] (defScope s__law_rows) := ⟨rfl, rfl, rfl, by decide +kernel, rfl, by decide +kernel, by decide +kernel⟩
abbrev s__law_one_row : Stmt := top 19
abbrev N__law_one_row : List Str := ["_law_d", "_law_c", "_law_deep", "_law_way", "_law_kind", "_law_row", "_law_n", "_law_test", "_law_rows_here", "_law_found", "_law_one", "_law_part"]
theorem sc__law_one_row : FnScope N__law_one_row ["_law_d", "_law_c", "_law_deep"] (defScope s__law_one_row) := ⟨rfl, rfl, rfl, by decide +kernel, rfl, by decide +kernel, by decide +kernel⟩
abbrev s__law_house : Stmt := top 20
abbrev N__law_house : List Str := ["_law_d", "_law_many", "_law_size", "_law_found", "_law_faces", "_law_files", "_law_consts", "_law_k", "_law_uses", "_law_used", "_law_plan", "_law_file", "_law_j", "_law_others", "_law_other", "_law_told", "_law_parts", "_law_word_here", "_law_kind", "_law_one", "_law_i"]
theorem sc__law_house : FnScope N__law_house ["_law_d", "_law_many", "_law_size"] (defScope s__law_house) := ⟨rfl, rfl, rfl, by decide +kernel, rfl, by decide +kernel, by decide +kernel⟩
abbrev s__law_level : Stmt := top 21
abbrev N__law_level : List Str := ["_law_sign", "_law_signs", "_law_k"]
theorem sc__law_level : FnScope N__law_level ["_law_sign"] (defScope s__law_level) := ⟨rfl, rfl, rfl, by decide +kernel, rfl, by decide +kernel, by decide +kernel⟩
abbrev s__law_filled : Stmt := top 22
abbrev N__law_filled : List Str := ["_law_d", "_law_plan", "_law_all_told", "_law_used", "_law_c", "_law_found", "_law_word_here", "_law_none", "_law_out", "_law_n", "_law_parts", "_law_kind", "_law_names", "_law_mine", "_law_b", "_law_defs", "_law_rows_here", "_law_one", "_law_part"]
theorem sc__law_filled : FnScope N__law_filled ["_law_d", "_law_plan", "_law_all_told", "_law_used"] (defScope s__law_filled) := ⟨rfl, rfl, rfl, by decide +kernel, rfl, by decide +kernel, by decide +kernel⟩
abbrev s__law_flat : Stmt := top 23
abbrev N__law_flat : List Str := ["_law_e_here", "_law_level_here", "_law_mine", "_law_found", "_law_one"]
theorem sc__law_flat : FnScope N__law_flat ["_law_e_here", "_law_level_here"] (defScope s__law_flat) := ⟨rfl, rfl, rfl, by decide +kernel, rfl, by decide +kernel, by decide +kernel⟩
abbrev s__law_lines : Stmt := top 24
abbrev N__law_lines : List Str := ["_law_rows_here", "_law_ahead", "_law_found", "_law_row", "_law_e_here", "_law_head"]
theorem sc__law_lines : FnScope N__law_lines ["_law_rows_here", "_law_ahead"] (defScope s__law_lines) := ⟨rfl, rfl, rfl, by decide +kernel, rfl, by decide +kernel, by decide +kernel⟩
abbrev s_law : Stmt := top 25
abbrev N_law : List Str := ["_law_script", "_law_d", "_law_house_here", "_law_file", "_law_uses", "_law_told", "_law_due", "_law_one", "_law_head", "_law_parts", "_law_part"]
theorem sc_law : FnScope N_law ["_law_script"] (defScope s_law) := ⟨rfl, rfl, rfl, by decide +kernel, rfl, by decide +kernel, by decide +kernel⟩
def kv_LEVELS : List (Str × DV) := [("or", .int 1), ("and", .int 2), ("not", .int 3), ("=", .int 4), ("<>", .int 4), ("<", .int 4), ("<=", .int 4), ("+", .int 5), ("-", .int 5), ("*", .int 6), ("/", .int 6), ("mod", .int 6), ("neg", .int 7)]
structure Tx (K : PySem.W.Frag) (w : World) (mg : Str → Option Value) where
  f_worth_text : Addr
  d_worth_text : FuncData
  t_worth_text : FnAt K mg "worth_text" s_worth_text ["e", "level"] f_worth_text d_worth_text
  f_named_text : Addr
  d_named_text : FuncData
  t_named_text : FnAt K mg "named_text" s_named_text ["e"] f_named_text d_named_text
  f_row_texts : Addr
  d_row_texts : FuncData
  t_row_texts : FnAt K mg "row_texts" s_row_texts ["row", "ahead"] f_row_texts d_row_texts
  f_block_texts : Addr
  d_block_texts : FuncData
  t_block_texts : FnAt K mg "block_texts" s_block_texts ["rows", "ahead"] f_block_texts d_block_texts
  f_told_texts : Addr
  d_told_texts : FuncData
  t_told_texts : FnAt K mg "told_texts" s_told_texts ["one"] f_told_texts d_told_texts
  f_text_of : Addr
  d_text_of : FuncData
  t_text_of : FnAt K mg "text_of" s_text_of ["tree"] f_text_of d_text_of
  f__law_dice : Addr
  d__law_dice : FuncData
  t__law_dice : FnAt K mg "_law_dice" s__law_dice ["_law_script"] f__law_dice d__law_dice
  f__law_next : Addr
  d__law_next : FuncData
  t__law_next : FnAt K mg "_law_next" s__law_next ["_law_dice_here", "_law_many"] f__law_next d__law_next
  f__law_like : Addr
  d__law_like : FuncData
  t__law_like : FnAt K mg "_law_like" s__law_like ["_law_found", "_law_due"] f__law_like d__law_like
  f__law_pick : Addr
  d__law_pick : FuncData
  t__law_pick : FnAt K mg "_law_pick" s__law_pick ["_law_d", "_law_some"] f__law_pick d__law_pick
  f__law_word : Addr
  d__law_word : FuncData
  t__law_word : FnAt K mg "_law_word" s__law_word ["_law_d", "_law_used"] f__law_word d__law_word
  f__law_e : Addr
  d__law_e : FuncData
  t__law_e : FnAt K mg "_law_e" s__law_e ["_law_d", "_law_kind", "_law_c", "_law_deep"] f__law_e d__law_e
  f__law_rows : Addr
  d__law_rows : FuncData
  t__law_rows : FnAt K mg "_law_rows" s__law_rows ["_law_d", "_law_c", "_law_deep", "_law_many"] f__law_rows d__law_rows
  f__law_one_row : Addr
  d__law_one_row : FuncData
  t__law_one_row : FnAt K mg "_law_one_row" s__law_one_row ["_law_d", "_law_c", "_law_deep"] f__law_one_row d__law_one_row
  f__law_house : Addr
  d__law_house : FuncData
  t__law_house : FnAt K mg "_law_house" s__law_house ["_law_d", "_law_many", "_law_size"] f__law_house d__law_house
  f__law_level : Addr
  d__law_level : FuncData
  t__law_level : FnAt K mg "_law_level" s__law_level ["_law_sign"] f__law_level d__law_level
  f__law_filled : Addr
  d__law_filled : FuncData
  t__law_filled : FnAt K mg "_law_filled" s__law_filled ["_law_d", "_law_plan", "_law_all_told", "_law_used"] f__law_filled d__law_filled
  f__law_flat : Addr
  d__law_flat : FuncData
  t__law_flat : FnAt K mg "_law_flat" s__law_flat ["_law_e_here", "_law_level_here"] f__law_flat d__law_flat
  f__law_lines : Addr
  d__law_lines : FuncData
  t__law_lines : FnAt K mg "_law_lines" s__law_lines ["_law_rows_here", "_law_ahead"] f__law_lines d__law_lines
  f_law : Addr
  d_law : FuncData
  t_law : FnAt K mg "law" s_law ["_law_script"] f_law d_law
  n_str : mg "str" = none
  n_int : mg "int" = none
  n_len : mg "len" = none
  n_isinstance : mg "isinstance" = none
  n_tuple : mg "tuple" = none
  n_list : mg "list" = none
  n_bool : mg "bool" = none
  n_range : mg "range" = none
  n_min : mg "min" = none
  n_sorted : mg "sorted" = none
  z_LAST : Tok
  m_LAST : mg "LAST" = some (Value.int 8 z_LAST)
  a_LEVELS : Addr
  m_LEVELS : mg "LEVELS" = some (.ref a_LEVELS)
  k_LEVELS : ∃ (es : Array DictEntry) (n : Nat), KDict K w a_LEVELS es n ∧ KeyVals es.toList kv_LEVELS
  z_LIKE : Tok
  m_LIKE : mg "LIKE" = some (Value.int 4 z_LIKE)
  z_STEP : Tok
  m_STEP : mg "STEP" = some (Value.str "  " z_STEP)
section
variable {P : Program} {w : World} {K : PySem.W.Frag} {mg : Str → Option Value} {base : Heap}
theorem Tx.e_LAST (T : Tx K w mg) {X : Cx} {pos : Pos} (h : X.mg = mg := by rfl) (hg : Gl X "LAST" := by rfl) : DE X (.Name "LAST" pos) (dC (.int 8)) := de_globI (by rw [h]; exact T.m_LAST) hg
theorem Tx.e_LEVELS (T : Tx K w mg) {X : Cx} {pos : Pos} (h : X.mg = mg := by rfl) (hg : Gl X "LEVELS" := by rfl) : DE X (.Name "LEVELS" pos) (dC (.ref T.a_LEVELS)) := de_globR (by rw [h]; exact T.m_LEVELS) (fun _ => .ref _) hg
theorem Tx.get_LEVELS (T : Tx K w mg) {X : Cx} {e f : Expr} {p apos cpos : Pos} {ty tx : DTE} (he : DE X e ty) (hf : DE X f tx) (m : M2 X (.Name "LEVELS" p) "get" apos e f cpos) (hK : X.K = K := by rfl) (hw : X.w = w := by rfl) (h : X.mg = mg := by rfl) (hg : Gl X "LEVELS" := by rfl) : DE X (.Call (.Attribute (.Name "LEVELS" p) "get" apos) [e, f] [] cpos) (dKGet2 T.a_LEVELS kv_LEVELS (dC (.ref T.a_LEVELS)) ty tx) := by
  obtain ⟨es, n, h1, h2⟩ := T.k_LEVELS
  exact de_kget2 (by rw [hK, hw]; exact h1) h2 (T.e_LEVELS h hg) he hf m
theorem Tx.e_LIKE (T : Tx K w mg) {X : Cx} {pos : Pos} (h : X.mg = mg := by rfl) (hg : Gl X "LIKE" := by rfl) : DE X (.Name "LIKE" pos) (dC (.int 4)) := de_globI (by rw [h]; exact T.m_LIKE) hg
theorem Tx.e_STEP (T : Tx K w mg) {X : Cx} {pos : Pos} (h : X.mg = mg := by rfl) (hg : Gl X "STEP" := by rfl) : DE X (.Name "STEP" pos) (dC (.str "  ")) := de_globS (by rw [h]; exact T.m_STEP) hg
theorem kv_w : klook kv_LEVELS "num" = none ∧ klook kv_LEVELS "truth" = none ∧ klook kv_LEVELS "name" = none ∧ klook kv_LEVELS "call" = none ∧ klook kv_LEVELS "not" = some (.int 3) ∧ klook kv_LEVELS "neg" = some (.int 7) := ⟨rfl, rfl, rfl, rfl, rfl, rfl⟩
theorem kv_op {op : Str} (h : op ∈ binOps) : klook kv_LEVELS op = some (.int (opLev op : Int)) := by
  simp only [binOps, List.mem_cons, List.not_mem_nil, or_false] at h
  rcases h with rfl | rfl | rfl | rfl | rfl | rfl | rfl | rfl | rfl | rfl | rfl <;> rfl
def sp_worth_text (n : Nat) : DSp := fun ds O Q _ => ∃ (e : Ex) (l : Nat), ds = [enc e, .int l] ∧ WF n e ∧ l ≤ 8 ∧ n ≤ 6 ∧ Q (.str (tx e l)) O
def sp_named_text (n : Nat) : DSp := fun ds O Q _ => ∃ (e : Ex), ds = [enc e] ∧ WF n e ∧ n ≤ 6 ∧ (∃ f m, e = .name f m ∨ ∃ as, e = .call f m as) ∧ Q (.str (tx e 8)) O
theorem cntR_six {n : Nat} (h : n ≤ 6) : cntR n ≤ 1333333 := by
  have m : ∀ {x y : Nat}, x ≤ y → cntR x ≤ cntR y := fun {x y} h => by
    induction h with
    | refl => exact Nat.le_refl _
    | step h ih => simp only [cntR]; omega
  have := m h
  have e : cntR 6 = 1333333 := by decide
  omega
def sp_row_texts (n : Nat) : DSp := fun ds O Q _ => ∃ (r : Rw) (a : Str), ds = [encR r, .str a] ∧ WFR n r ∧ PR r ∧ (tl a).length + 2 * n ≤ 100 ∧ n ≤ 7 ∧ Q (.lst ((rowTx r a).map DV.str)) O
def sp_block_texts (n : Nat) : DSp := fun ds O Q _ => ∃ (rs : List Rw) (a : Str), ds = [.tup (encRs rs), .str a] ∧ WFRs n rs ∧ PRs rs ∧ rs.length ≤ 5 ∧ (tl a).length + 2 * n ≤ 100 ∧ n ≤ 6 ∧ Q (.lst ((blkTx rs a).map DV.str)) O
def sp_told_texts (n : Nat) : DSp := fun ds O Q _ => ∃ (t : Td), ds = [encT t] ∧ WFT t ∧ Q (.lst ((toldTx t).map DV.str)) O
theorem lit_comma : (tl (Str.ofString ", ")).length = 2 := rfl
theorem lit_nl : (tl (Str.ofString "\n")).length = 1 := rfl
theorem lit_use : (tl (Str.ofString "use ")).length = 4 := rfl
def sp_text_of (n : Nat) : DSp := fun ds O Q _ => ∃ (us : List Str) (ts : List Td), ds = [.tup [.tup (us.map fun u => .tup [.non, .str u]), .tup (ts.map encT)]] ∧ us.length ≤ 3 ∧ (∀ u ∈ us, (tl u).length ≤ 10 ∧ Cps u) ∧ ts.length ≤ 4 ∧ (∀ t ∈ ts, WFT t) ∧ Q (.str (fileTx us ts)) O
def sp__law_dice : DSp := fun ds O Q _ => ∃ (ns : List Int), ds = [.slst (ns.map DV.int)] ∧ ns.length ≤ 63 ∧ ∀ p c, O p = none → Dice c → Q (.ref p) (oset O p c)
def sp__law_next : DSp := fun ds O Q _ => ∃ (a : Addr) (m : Int) (c : Cell), ds = [.ref a, .int m] ∧ O a = some c ∧ Dice c ∧ 0 < m ∧ m < 1073741824 ∧ ∀ r c', 0 ≤ r → r < m → Dice c' → Q (.int r) (oset O a c')
def sp__law_like (n : Nat) : DSp := fun ds O Q _ => ∃ (v d1 d2 : DV) (m : Nat), ds = [d1, d2] ∧ n = m + 1 ∧ Pure m v ∧ Sees O d1 v ∧ Sees O d2 v ∧ Q (.bl true) O
def sp__law_pick : DSp := fun ds O Q _ => ∃ (a : Addr) (d : DV) (c : Cell) (xs : List DV), ds = [.ref a, d] ∧ O a = some c ∧ Dice c ∧ seqOf O d = some xs ∧ (∀ c', seqOf (oset O a c') d = some xs) ∧ 0 < xs.length ∧ xs.length < 1073741824 ∧ ∀ x ∈ xs, ∀ c', Dice c' → Q x (oset O a c')
def sp__law_word : DSp := fun ds O Q _ => ∃ (a b : Addr) (c : Cell) (us : List Str), ds = [.ref a, .ref b] ∧ a ≠ b ∧ O a = some c ∧ Dice c ∧ O b = some (.lst (us.map DV.str)) ∧ us.length ≤ 150 ∧ ∀ w c', IsName w → w ∉ us → Dice c' → Q (.str w) (oset (oset O a c') b (.lst ((us ++ [w]).map DV.str)))
theorem nk_num : dget (dmerge [] [(Sum.inr (Str.ofString "num"), DV.str (Str.ofString "neg")), (Sum.inr (Str.ofString "yes"), DV.str (Str.ofString "not"))] : List (Key × DV)) (Sum.inr (Str.ofString "num")) = some (.str (Str.ofString "neg")) := rfl
theorem nk_yes : dget (dmerge [] [(Sum.inr (Str.ofString "num"), DV.str (Str.ofString "neg")), (Sum.inr (Str.ofString "yes"), DV.str (Str.ofString "not"))] : List (Key × DV)) (Sum.inr (Str.ofString "yes")) = some (.str (Str.ofString "not")) := rfl
def sp__law_e (n : Nat) : DSp := fun ds O Q _ => ∃ (a c : Addr) (kd : Str) (dc : Cell) (kvs : List (Key × DV)) (ns : List Nm) (dfs : List Df) (sg : List Str) (dp : Nat), ds = [.ref a, .str kd, .ref c, .int dp] ∧ a ≠ c ∧ O a = some dc ∧ Dice dc ∧ O c = some (.dK kvs) ∧ CtxE kvs ns dfs sg ∧ KN kd ∧ dp < n ∧ ∀ e dc', WF (dp + 1) e → PE e → Dice dc' → Q (enc e) (oset O a dc')
def sp__law_rows (n : Nat) : DSp := fun ds O Q _ => ∃ (a c u : Addr) (dc : Cell) (ns : List Nm) (kd : Str) (l : Int) (dfs : List Df) (ss : List (Str × Str)) (sg us : List Str) (dp : Nat) (many : Int), ds = [.ref a, .ref c, .int dp, .int many] ∧ BSt O a c u dc ns kd l dfs ss sg us ∧ many ≤ 5 ∧ 0 ≤ many ∧ dp < n ∧ us.length + Tn l.toNat ≤ 140 ∧ -1000 ≤ l - Tn l.toNat ∧ l ≤ 10 ∧ ∀ rs dc' l' us' O', WFRs (dp + 1) rs → PRs rs → rs.length ≤ 5 → rs.length ≤ l.toNat → l' + cRs rs = l → us.length ≤ us'.length → us'.length ≤ us.length + cRs rs → cRs rs ≤ Tn l.toNat → BSt O' a c u dc' ns kd l' dfs ss sg us' → Fr O O' [a, c, u] → Q (.tup (encRs rs)) O'
def sp__law_one_row (n : Nat) : DSp := fun ds O Q _ => ∃ (a c u : Addr) (dc : Cell) (ns : List Nm) (kd : Str) (l : Int) (dfs : List Df) (ss : List (Str × Str)) (sg us : List Str) (dp : Nat), ds = [.ref a, .ref c, .int dp] ∧ BSt O a c u dc ns kd l dfs ss sg us ∧ dp < n ∧ us.length + 1 + 2 * Tn l.toNat ≤ 140 ∧ -1000 ≤ l - 2 * Tn l.toNat ∧ l ≤ 10 ∧ ∀ r dc' ns' ss' l' us' O', WFR (dp + 1) r → PR r → l' + cR r = l + 1 → us.length ≤ us'.length → us'.length ≤ us.length + cR r → cR r ≤ 1 + 2 * Tn l.toNat → BSt O' a c u dc' ns' kd l' dfs ss' sg us' → Fr O O' [a, c, u] → Q (encR r) O'
def sp__law_house (n : Nat) : DSp := fun ds O Q _ => ∃ (a : Addr) (dc : Cell), ds = [.ref a, .int 3, .int 4] ∧ O a = some dc ∧ Dice dc ∧ ∀ p (es : List (Str × List Str × List Td)) dc' O', (∀ e ∈ es, OkF e) → es.length ≤ 3 → Dice dc' → O' a = some dc' → O' p = some (.dK (es.map encFl)) → Fr O O' [a] → Q (.ref p) O'
def sp__law_level : DSp := fun ds O Q _ => ∃ (w : Str) (m : Nat), ds = [.str w] ∧ LevOf w m ∧ Q (.int m) O
def sp__law_filled (n : Nat) : DSp := fun ds O Q _ => ∃ (a u : Addr) (dc : Cell) (pls : List Pl) (ats : List At) (us : List Str), ds = [.ref a, .lst (pls.map encPl), .lst (ats.map encAt), .ref u] ∧ a ≠ u ∧ O a = some dc ∧ Dice dc ∧ O u = some (.lst (us.map DV.str)) ∧ us.length ≤ 60 ∧ pls.length ≤ 4 ∧ ats.length ≤ 100 ∧ (∀ p ∈ pls, OkPl p) ∧ (∀ p ∈ ats, OkAt p) ∧ ∀ (ts : List Td) dc' O', (∀ t ∈ ts, WFT t) → ts.length ≤ 4 → Dice dc' → O' a = some dc' → Fr O O' [a] → Q (.tup (ts.map encT)) O'
def sp__law_flat (n : Nat) : DSp := fun ds O Q _ => ∃ (e : Ex) (l : Nat), ds = [enc e, .int l] ∧ WF n e ∧ l ≤ 7 ∧ n ≤ 6 ∧ Q (.str (tx e (l + 1))) O
theorem hd_none {w : Str} (h : w ∈ (["give", "say", "do", "if", "while"] : List Str)) : dget (dmerge [] [(Sum.inr (Str.ofString "let"), DV.str (Str.ofString "let ")), (Sum.inr (Str.ofString "set"), DV.str (Str.ofString ""))] : List (Key × DV)) (Sum.inr w) = none := by
  simp only [List.mem_cons, List.not_mem_nil, or_false] at h
  rcases h with rfl | rfl | rfl | rfl | rfl <;> rfl
theorem hd_let : dget (dmerge [] [(Sum.inr (Str.ofString "let"), DV.str (Str.ofString "let ")), (Sum.inr (Str.ofString "set"), DV.str (Str.ofString ""))] : List (Key × DV)) (Sum.inr (Str.ofString "let")) = some (.str (Str.ofString "let ")) := rfl
theorem hd_set : dget (dmerge [] [(Sum.inr (Str.ofString "let"), DV.str (Str.ofString "let ")), (Sum.inr (Str.ofString "set"), DV.str (Str.ofString ""))] : List (Key × DV)) (Sum.inr (Str.ofString "set")) = some (.str (Str.ofString "")) := rfl
theorem let_eq {a n t : Str} : a ++ (Str.ofString "let " ++ (n ++ Str.ofString " =")) ++ (Str.ofString " " ++ t) = a ++ Str.ofString "let " ++ n ++ Str.ofString " = " ++ t := by
  apply ext_tl; simp only [tl_append, List.append_assoc, show tl (Str.ofString " = ") = tl (Str.ofString " =") ++ tl (Str.ofString " ") from rfl]
theorem set_eq_ {a n t : Str} : a ++ (Str.ofString "" ++ (n ++ Str.ofString " =")) ++ (Str.ofString " " ++ t) = a ++ n ++ Str.ofString " = " ++ t := by
  apply ext_tl; simp only [tl_append, List.append_assoc, show tl (Str.ofString " = ") = tl (Str.ofString " =") ++ tl (Str.ofString " ") from rfl, show tl (Str.ofString "") = [] from rfl, List.nil_append]
theorem one_eq_ {a w t : Str} : a ++ (w ++ Str.ofString "") ++ (Str.ofString " " ++ t) = a ++ w ++ Str.ofString " " ++ t := by
  apply ext_tl; simp only [tl_append, List.append_assoc, show tl (Str.ofString "") = [] from rfl, List.nil_append, List.append_nil]
theorem give_eq {a w : Str} : a ++ (w ++ Str.ofString "") ++ Str.ofString "" = a ++ w := by
  apply ext_tl; simp only [tl_append, List.append_assoc, show tl (Str.ofString "") = [] from rfl, List.nil_append, List.append_nil]
theorem blkTx_app (xs ys : List Rw) (a : Str) : blkTx (xs ++ ys) a = blkTx xs a ++ blkTx ys a := by
  induction xs with
  | nil => simp [blkTx]
  | cons x xs ih => simp only [List.cons_append, blkTx, ih, List.append_assoc]
theorem wfrs_take {n : Nat} : ∀ {rs : List Rw} (i : Nat), WFRs n rs → WFRs n (rs.take i)
  | [], i, h => by cases i <;> exact h
  | r :: rs, 0, h => by simp [WFRs]
  | r :: rs, i + 1, h => by
    simp only [List.take_succ_cons, WFRs] at h ⊢
    exact ⟨h.1, wfrs_take i h.2⟩
theorem prs_mem : ∀ {as : List Rw}, PRs as → ∀ e ∈ as, PR e
  | [], _, e, h => by cases h
  | a :: as, h, e, he => by
    simp only [PRs] at h
    rcases List.mem_cons.mp he with rfl | he
    · exact h.1
    · exact prs_mem h.2 e he
def sp__law_lines (n : Nat) : DSp := fun ds O Q _ => ∃ (rs : List Rw) (a : Str) (m : Nat), ds = [.tup (encRs rs), .str a] ∧ n = m + 1 ∧ WFRs m rs ∧ PRs rs ∧ rs.length ≤ 5 ∧ (tl a).length + 2 * m ≤ 100 ∧ m ≤ 6 ∧ ∀ O', Fr O O' [] → Q (.lst ((blkTx rs a).map DV.str)) O'
def sp_law (n : Nat) : DSp := spLaw
theorem ok_worth_text (T : Tx K w mg) (n : Nat) (G_worth_text : FnOk P w K mg base CX0 (2 * n + 2) T.f_worth_text T.d_worth_text ["e", "level"] (liftSp K (sp_worth_text n))) (G_named_text : FnOk P w K mg base CX0 (2 * n + 3) T.f_named_text T.d_named_text ["e"] (liftSp K (sp_named_text (n + 1)))) : FnOk P w K mg base CX0 (2 * n + 4) T.f_worth_text T.d_worth_text ["e", "level"] (liftSp K (sp_worth_text (n + 1))) := by
  refine DFun.ok T.t_worth_text.fn sc_worth_text (by decide) (by rintro _ _ _ _ ⟨_, _, rfl, _⟩; rfl) (fun cdv A outer s H E ds O Q ED hr h => ?_)
  have hr_worth_text : Room (2 * n + 2) _ := hr.mono (by omega)
  have hr_named_text : Room (2 * n + 3) _ := hr.mono (by omega)
  have nd := sc_worth_text.nd
  have hu64 := hr.units
  have hu := hu_of hr
  refine ⟨_, (dss_cons (ds_set 2 (de_ix (dv 0) de_int) nd)
      (dss_cons (ds_set 3 (T.get_LEVELS (dv 2) T.e_LAST ⟨rfl, rfl, rfl, rfl⟩) nd)
      (dss_cons (ds_if (dt_cmp (od_eq hu64) (dv 2) de_str) (dss_one (ds_set 4 (de_callTy cd_str T.n_str bb_str (da_cons (de_ix (dv 0) de_int) da_nil)) nd)) (dss_one (ds_if (dt_cmp (od_eq hu64) (dv 2) de_str) (dss_one (ds_set 4 (de_if (dt_tru (de_ix (dv 0) de_int)) de_str de_str) nd)) (dss_one (ds_if (dt_cmp od_in (dv 2) (de_tup (da_cons de_str (da_cons de_str da_nil)))) (dss_one (ds_set 4 (de_call G_named_text hr_named_text T.t_named_text.mg T.t_named_text.fn.kp T.t_named_text.bi (da_cons (dv 0) da_nil)) nd)) (dss_one (ds_if (dt_cmp (od_eq hu64) (dv 2) de_str) (dss_one (ds_set 4 (de_op od_add de_str (de_call G_worth_text hr_worth_text T.t_worth_text.mg T.t_worth_text.fn.kp T.t_worth_text.bi (da_cons (de_ix (dv 0) de_int) (da_cons (dv 3) da_nil)))) nd)) (dss_one (ds_if (dt_cmp (od_eq hu64) (dv 2) de_str) (dss_one (ds_set 4 (de_op od_add de_str (de_call G_worth_text hr_worth_text T.t_worth_text.mg T.t_worth_text.fn.kp T.t_worth_text.bi (da_cons (de_ix (dv 0) de_int) (da_cons (dv 3) da_nil)))) nd)) (dss_cons (ds_set 5 (de_if (dt_cmp (od_eq hu64) (dv 3) T.e_LIKE) (de_op od_add (dv 3) de_int) (dv 3)) nd)
      (dss_one (ds_set 4 (de_op od_add (de_op od_add (de_op od_add (de_op od_add (de_call G_worth_text hr_worth_text T.t_worth_text.mg T.t_worth_text.fn.kp T.t_worth_text.bi (da_cons (de_ix (dv 0) de_int) (da_cons (dv 5) da_nil))) de_str) (dv 2)) de_str) (de_call G_worth_text hr_worth_text T.t_worth_text.mg T.t_worth_text.fn.kp T.t_worth_text.bi (da_cons (de_ix (dv 0) de_int) (da_cons (de_op od_add (dv 3) de_int) da_nil)))) nd))))))))))))
      (dss_one (ds_ret (de_if (dt_cmp od_ge (dv 3) (dv 1)) (dv 4) (de_op od_add (de_op od_add de_str (dv 4)) de_str))))))), ?_⟩
  obtain ⟨e, l, rfl, hw, hl, hn, k⟩ := h
  obtain ⟨v1, v2, v3, v4, v5, v6⟩ := kv_w
  cases e with
  | num m =>
    simp only [enc]
    simp only [WF] at hw
    simp only [tx] at k
    wp_walk using v1, Option.getD_none
    exact ⟨log2_of _ (by omega) (by omega), ite_t (by omega) k⟩
  | truth b =>
    simp only [enc]
    simp only [tx] at k
    wp_walk using v2, Option.getD_none
    refine ite_c (fun q => ite_t (by omega) ?_) (fun q => ite_t (by omega) ?_)
    · rw [if_pos q] at k; exact k
    · rw [if_neg q] at k; exact k
  | name f m =>
    have hw0 := hw
    simp only [enc]
    simp only [WF] at hw
    wp_walk using v3, Option.getD_none
    refine ⟨.name f m, by simp only [enc], hw0, hn, ⟨f, m, .inl rfl⟩, ?_⟩
    simp only [tx] at k ⊢
    wp_walk using v3, Option.getD_none
    exact ite_t (by omega) k
  | call f m as =>
    have hw0 := hw
    simp only [enc]
    wp_walk using v4, Option.getD_none
    refine ⟨.call f m as, by simp only [enc], hw0, hn, ⟨f, m, .inr ⟨as, rfl⟩⟩, ?_⟩
    simp only [tx] at k ⊢
    wp_walk using v4, Option.getD_none
    exact ite_t (by omega) k
  | un neg a =>
    simp only [WF] at hw
    cases neg
    · simp only [enc, Bool.false_eq_true, if_false]
      simp only [tx, Bool.false_eq_true, if_false] at k
      wp_walk using v5, Option.getD_some
      refine ⟨a, 3, rfl, hw, by omega, by omega, ?_⟩
      wp_walk using v5, Option.getD_some
      have := tx_le (l := 3) hw (by omega)
      have e1 : (tl (Str.ofString "not ")).length = 4 := rfl
      refine ⟨line_of (by omega), par_ok (m := 3) (by rw [app_len]; omega) k⟩
    · simp only [enc, if_true]
      simp only [tx, if_true] at k
      wp_walk using v6, Option.getD_some
      refine ⟨a, 7, rfl, hw, by omega, by omega, ?_⟩
      wp_walk using v6, Option.getD_some
      have := tx_le (l := 7) hw (by omega)
      have e1 : (tl (Str.ofString "-")).length = 1 := rfl
      refine ⟨line_of (by omega), par_ok (m := 7) (by rw [app_len]; omega) k⟩
  | bin op a b =>
    simp only [WF] at hw
    obtain ⟨hop, ha, hb⟩ := hw
    obtain ⟨n1, n2, n3, n4, n5, n6, n7, n8⟩ := op_ne hop
    have kv := kv_op hop
    have hm := opLev_le (op := op)
    simp only [enc]
    simp only [tx] at k
    have l3 := op_len op hop
    have e1 : (tl (Str.ofString " ")).length = 1 := rfl
    have lb := tx_le (l := opLev op + 1) hb (by omega)
    wp_walk using kv, Option.getD_some, n1, n2, n3, n4, n5, n6, n7, n8
    refine ite_c (fun q => ?_) (fun q => ?_)
    · have q : opLev op = 4 := by omega
      have la := tx_le (l := lsum (opLev op)) ha (by omega)
      refine ⟨a, lsum (opLev op), by simp only [lsum, q, if_true]; rfl, ha, by simp only [lsum, q, if_true]; omega, by omega, ?_⟩
      walk_at "ev"
      refine ⟨by walk_at "sz", by walk_at "sz", by walk_at "sz", b, opLev op + 1, by simp, hb, by omega, by omega, ?_⟩
      walk_at "ev"
      exact ⟨by walk_at "sz", par_ok (by walk_at "sz") k⟩
    · have q : ¬ opLev op = 4 := by omega
      have la := tx_le (l := lsum (opLev op)) ha (by omega)
      refine ⟨a, lsum (opLev op), by simp only [lsum, q, if_false], ha, by simp only [lsum, q, if_false]; omega, by omega, ?_⟩
      walk_at "ev"
      refine ⟨by walk_at "sz", by walk_at "sz", by walk_at "sz", b, opLev op + 1, by simp, hb, by omega, by omega, ?_⟩
      walk_at "ev"
      exact ⟨by walk_at "sz", par_ok (by walk_at "sz") k⟩
theorem ok_named_text (T : Tx K w mg) (n : Nat) (G_worth_text : FnOk P w K mg base CX0 (2 * n + 2) T.f_worth_text T.d_worth_text ["e", "level"] (liftSp K (sp_worth_text n))) : FnOk P w K mg base CX0 (2 * n + 3) T.f_named_text T.d_named_text ["e"] (liftSp K (sp_named_text (n + 1))) := by
  refine DFun.ok T.t_named_text.fn sc_named_text (by decide) (by rintro _ _ _ _ ⟨_, rfl, _⟩; rfl) (fun cdv A outer s H E ds O Q ED hr h => ?_)
  have hr_worth_text : Room (2 * n + 2) _ := hr.mono (by omega)
  have nd := sc_named_text.nd
  have hu64 := hr.units
  have hu := hu_of hr
  refine ⟨_, (dss_cons (ds_set 1 (de_if (dt_cmp (od_eq hu64) (de_ix (dv 0) de_int) de_str) (de_ix (dv 0) de_int) (de_op od_add (de_op od_add (de_ix (dv 0) de_int) de_str) (de_ix (dv 0) de_int))) nd)
      (dss_cons (ds_if (dt_cmp (od_eq hu64) (de_ix (dv 0) de_int) de_str) (dss_one (ds_ret (dv 1))) dss_nil)
      (dss_one (ds_ret (de_op od_add (de_op od_add (de_op od_add (dv 1) de_str) (de_bm PySem.F.plainAttrs_str PySem.F.slot_str_join PySem.F.type_str_join md_join de_str (da_cons (de_lc false (own := [("other", 2)]) rfl nd  (di_tup (de_ix (dv 0) de_int)) (blkOk_by (N := N_named_text) (sc := defScope s_named_text) (by decide +kernel)) (tgt_1 (i := 2) (by decide)) (fun _ _ _ _ _ => (pg_name (i := 2) nd rfl (Or.inl rfl))) (fun _ _ _ _ _ => dts_nil) (fun _ _ _ _ _ => (de_call G_worth_text hr_worth_text T.t_worth_text.mg T.t_worth_text.fn.kp T.t_worth_text.bi (da_cons (dv 2) (da_cons de_int da_nil))))) da_nil))) de_str))))), ?_⟩
  obtain ⟨e, rfl, hw, hn, ⟨f, m, hc⟩, k⟩ := h
  have e0 : (tl (Str.ofString ".")).length = 1 := rfl
  have e1 : (tl (Str.ofString "(")).length = 1 := rfl
  have e2 : (tl (Str.ofString ")")).length = 1 := rfl
  have e3 : (tl (Str.ofString ", ")).length = 2 := rfl
  rcases hc with rfl | ⟨as, rfl⟩
  · simp only [WF] at hw
    simp only [tx, nmT] at k
    simp only [enc]
    walk_at "ev"
    refine ite_c (fun q => ?_) (fun q => ?_)
    · rw [if_pos q] at k; walk_at "ev"; exact k
    · rw [if_neg q] at k; walk_at "ev"; exact ⟨by walk_at "sz", by walk_at "sz", k⟩
  · simp only [WF] at hw
    obtain ⟨h1, h2, h3, h4⟩ := hw
    simp only [tx, nmT] at k
    simp only [enc]
    walk_at "ev"
    have hj := join_len (sep := Str.ofString ", ") (txL_len as n h4)
    have hs := sum_len_le (txL_len as n h4)
    rw [txL_length, e3] at hj
    rw [txL_length] at hs
    have hr := room_le (n := n) (by omega)
    have hm : room n * as.length ≤ room n * 3 := Nat.mul_le_mul_left _ h3
    have step : ∀ (S : DSt), ∀ e ∈ as, ∀ K : DVK, K (.str (tx e 1)) O → onSome (bind1 2 (enc e) [S[0]!, S[1]!, none]) fun S2 => dCall (sp_worth_text n) (dACons (dVar 2) (dACons (dC (DV.int 1)) dANil)) S2 O K := fun S e he K hK => by
      walk_at "ev"
      exact ⟨e, 1, rfl, wfl_mem h4 e he, by omega, by omega, hK⟩
    refine ite_c (fun q => ?_) (fun q => ?_)
    · rw [if_pos q] at k
      walk_at "ev"
      refine ⟨by walk_at "sz", args_lc (n := n) h3 (fun e he K hK => step [_, _] e he K hK) ?_⟩
      wp_walk using strsOf_strs
      exact ⟨by rw [txL_length, e3]; omega, by walk_at "sz", by walk_at "sz", k⟩
    · rw [if_neg q] at k
      walk_at "go"
      refine args_lc (n := n) h3 (fun e he K hK => step [_, _] e he K hK) ?_
      wp_walk using strsOf_strs
      exact ⟨by rw [txL_length, e3]; omega, by walk_at "sz", by walk_at "sz", k⟩
theorem ok_row_texts (T : Tx K w mg) (n : Nat) (G_block_texts : FnOk P w K mg base CX0 (2 * n + 22) T.f_block_texts T.d_block_texts ["rows", "ahead"] (liftSp K (sp_block_texts n))) (G_worth_text : FnOk P w K mg base CX0 (14) T.f_worth_text T.d_worth_text ["e", "level"] (liftSp K (sp_worth_text six))) : FnOk P w K mg base CX0 (2 * n + 23) T.f_row_texts T.d_row_texts ["row", "ahead"] (liftSp K (sp_row_texts (n + 1))) := by
  refine DFun.ok T.t_row_texts.fn sc_row_texts (by decide) (by rintro _ _ _ _ ⟨_, _, rfl, _⟩; rfl) (fun cdv A outer s H E ds O Q ED hr h => ?_)
  have hr_block_texts : Room (2 * n + 22) _ := hr.mono (by omega)
  have hr_worth_text : Room (14) _ := hr.mono (by omega)
  have nd := sc_row_texts.nd
  have hu64 := hr.units
  have hu := hu_of hr
  refine ⟨_, (dss_cons (ds_set 2 (de_ix (dv 0) de_int) nd)
      (dss_cons (ds_if (dt_cmp (od_eq hu64) (dv 2) de_str) (dss_one (ds_ret (de_lstF (da_cons (de_op od_add (de_op od_add (de_op od_add (de_op od_add (dv 1) de_str) (de_ix (dv 0) de_int)) de_str) (de_call G_worth_text hr_worth_text T.t_worth_text.mg T.t_worth_text.fn.kp T.t_worth_text.bi (da_cons (de_ix (dv 0) de_int) (da_cons de_int da_nil)))) da_nil)))) dss_nil)
      (dss_cons (ds_if (dt_cmp (od_eq hu64) (dv 2) de_str) (dss_one (ds_ret (de_lstF (da_cons (de_op od_add (de_op od_add (de_op od_add (dv 1) (de_ix (dv 0) de_int)) de_str) (de_call G_worth_text hr_worth_text T.t_worth_text.mg T.t_worth_text.fn.kp T.t_worth_text.bi (da_cons (de_ix (dv 0) de_int) (da_cons de_int da_nil)))) da_nil)))) dss_nil)
      (dss_cons (ds_if (dt_cmp od_isN (de_ix (dv 0) de_int) de_non) (dss_one (ds_ret (de_lstF (da_cons (de_op od_add (dv 1) (dv 2)) da_nil)))) dss_nil)
      (dss_cons (ds_set 3 (de_lstO (da_cons (de_op od_add (de_op od_add (de_op od_add (dv 1) (dv 2)) de_str) (de_call G_worth_text hr_worth_text T.t_worth_text.mg T.t_worth_text.fn.kp T.t_worth_text.bi (da_cons (de_ix (dv 0) de_int) (da_cons de_int da_nil)))) da_nil)) nd)
      (dss_cons (ds_if (dt_cmp od_in (dv 2) (de_tup (da_cons de_str (da_cons de_str da_nil)))) (dss_cons (ds_expr (de_bm PySem.F.plainAttrs_list PySem.F.slot_list_extend PySem.F.type_list_extend md_extend (dv 3) (da_cons (de_call G_block_texts hr_block_texts T.t_block_texts.mg T.t_block_texts.fn.kp T.t_block_texts.bi (da_cons (de_ix (dv 0) de_int) (da_cons (de_op od_add (dv 1) T.e_STEP) da_nil))) da_nil)))
      (dss_cons (ds_if (dt_w (dw_and (dt_cmp (od_eq hu64) (dv 2) de_str) (dw_and1 (dt_cmp (od_ne hu64) (de_ix (dv 0) de_int) (de_tup da_nil))))) (dss_one (ds_expr (de_bm PySem.F.plainAttrs_list PySem.F.slot_list_extend PySem.F.type_list_extend md_extend (dv 3) (da_cons (de_op od_add (de_lstF (da_cons (de_op od_add (dv 1) de_str) da_nil)) (de_call G_block_texts hr_block_texts T.t_block_texts.mg T.t_block_texts.fn.kp T.t_block_texts.bi (da_cons (de_ix (dv 0) de_int) (da_cons (de_op od_add (dv 1) T.e_STEP) da_nil)))) da_nil)))) dss_nil)
      (dss_one (ds_expr (de_bm PySem.F.plainAttrs_list PySem.F.slot_list_append PySem.F.type_list_append md_append (dv 3) (da_cons (de_op od_add (dv 1) de_str) da_nil)))))) dss_nil)
      (dss_one (ds_retF (dv 3))))))))), ?_⟩
  obtain ⟨r, a, rfl, hw, hpr, ha, hn, k⟩ := h
  have hc := cntR_six (n := n) (by omega)
  cases r with
  | lt new m e =>
    simp only [WFR] at hw
    simp only [rowTx] at k
    have lx := tx_le (l := 1) hw.2 six_le
    cases new
    · simp only [encR, Bool.false_eq_true, if_false]
      simp only [Bool.false_eq_true, if_false] at k
      walk_at "go"
      refine ⟨e, 1, rfl, hw.2, by omega, six_le, ?_⟩
      walk_at "go"
      exact k
    · simp only [encR, if_true]
      simp only [if_true] at k
      walk_at "go"
      refine ⟨e, 1, rfl, hw.2, by omega, six_le, ?_⟩
      walk_at "go"
      exact k
  | one w e =>
    cases e with
    | none =>
      simp only [WFR] at hw
      subst hw
      simp only [rowTx, oneTx] at k
      simp only [encR, encO]
      walk_at "go"
      exact k
    | some e =>
      simp only [WFR] at hw
      simp only [rowTx, oneTx] at k
      simp only [encR, encO]
      obtain ⟨hw1, hw2⟩ := hw
      have lx := tx_le (l := 1) hw2 six_le
      simp only [List.mem_cons, List.not_mem_nil, or_false] at hw1
      rcases hw1 with rfl | rfl | rfl
      all_goals
        wp_walk using isNon_enc
        walk_at "go"
        refine ⟨e, 1, rfl, hw2, by omega, six_le, ?_⟩
        walk_at "go"
        intro p hp
        wp_walk using odel_oset hp
        exact k
  | whl t x =>
    simp only [WFR] at hw
    simp only [PR] at hpr
    obtain ⟨h1, h2, h3⟩ := hw
    have lx := tx_le (l := 1) h1 six_le
    have lb := blkTx_len x n (a ++ Str.ofString "  ") h3
    have lm : x.length * cntR n ≤ 5 * cntR n := Nat.mul_le_mul_right _ h2
    simp only [rowTx] at k
    simp only [encR]
    wp_walk using isNon_enc
    walk_at "go"
    refine ⟨t, 1, rfl, h1, by omega, six_le, ?_⟩
    walk_at "go"
    intro p hp
    walk_at "go"
    refine ⟨x, a ++ Str.ofString "  ", rfl, h3, hpr.2, h2, by walk_at "sz", by omega, ?_⟩
    walk_at "go"
    wp_walk using odel_oset hp
    simp only [List.map_append, List.map_cons, List.map_nil, List.cons_append, List.nil_append, List.append_assoc] at k ⊢
    exact k
  | iff t x y =>
    simp only [WFR] at hw
    simp only [PR] at hpr
    obtain ⟨h1, h2, h3, h4, h5⟩ := hw
    have lx := tx_le (l := 1) h1 six_le
    have lb := blkTx_len x n (a ++ Str.ofString "  ") h4
    have lm : x.length * cntR n ≤ 5 * cntR n := Nat.mul_le_mul_right _ h2
    have lb2 := blkTx_len y n (a ++ Str.ofString "  ") h5
    have lm2 : y.length * cntR n ≤ 5 * cntR n := Nat.mul_le_mul_right _ h3
    have hpu : PureS (2 * n + 15) (.tup (encRs y)) := .tup (n := 2 * n + 14) (pure_encRs y n h5 hpr.2.2)
    simp only [encR]
    wp_walk using isNon_enc
    walk_at "go"
    refine ⟨t, 1, rfl, h1, by omega, six_le, ?_⟩
    walk_at "go"
    intro p hp
    walk_at "go"
    refine ⟨x, a ++ Str.ofString "  ", rfl, h4, hpr.2.1, h2, by walk_at "sz", by omega, ?_⟩
    walk_at "go"
    refine tup_nil hpu (by omega) ?_
    cases y with
    | nil =>
      wp_walk using encRs, decide_true, odel_oset hp
      walk_at "go"
      wp_walk using odel_oset hp
      simp only [rowTx, List.map_append, List.map_cons, List.map_nil, List.cons_append, List.nil_append, List.append_assoc] at k ⊢
      exact k
    | cons r rs =>
      wp_walk using encRs, List.cons_ne_nil, decide_false
      walk_at "go"
      refine ⟨r :: rs, a ++ Str.ofString "  ", by simp only [encRs], h5, hpr.2.2, h3, by walk_at "sz", by omega, ?_⟩
      walk_at "go"
      wp_walk using odel_oset hp
      simp only [rowTx, blkTx, List.map_append, List.map_cons, List.map_nil, List.cons_append, List.nil_append, List.append_assoc] at k ⊢
      exact k
theorem ok_block_texts (T : Tx K w mg) (n : Nat) (G_row_texts : FnOk P w K mg base CX0 (2 * n + 21) T.f_row_texts T.d_row_texts ["row", "ahead"] (liftSp K (sp_row_texts n))) : FnOk P w K mg base CX0 (2 * n + 22) T.f_block_texts T.d_block_texts ["rows", "ahead"] (liftSp K (sp_block_texts n)) := by
  refine DFun.ok T.t_block_texts.fn sc_block_texts (by decide) (by rintro _ _ _ _ ⟨_, _, rfl, _⟩; rfl) (fun cdv A outer s H E ds O Q ED hr h => ?_)
  have hr_row_texts : Room (2 * n + 21) _ := hr.mono (by omega)
  have nd := sc_block_texts.nd
  have hu64 := hr.units
  have hu := hu_of hr
  refine ⟨_, (dss_one (ds_ret (de_lc2 false (own := [("row", 2), ("text", 3)]) (vs1 := [3]) rfl nd  (di_tup (dv 0)) (blkOk_by (N := N_block_texts) (sc := defScope s_block_texts) (by decide +kernel)) (by decide) (tgt_1 (i := 2) (by decide)) (tgt_1 (i := 3) (by decide)) (fun _ _ _ _ _ => (pg_name (i := 2) nd rfl (Or.inl rfl))) (fun _ _ _ _ _ => dts_nil) (fun _ _ _ _ _ => (di_list (de_call G_row_texts hr_row_texts T.t_row_texts.mg T.t_row_texts.fn.kp T.t_row_texts.bi (da_cons (dv 2) (da_cons (dv 1) da_nil))))) (fun _ _ _ _ _ => (pg_name (i := 3) nd rfl (Or.inl rfl))) (fun _ _ _ _ _ => dts_nil) (fun _ _ _ _ _ => (dv 3))))), ?_⟩
  obtain ⟨rs, a, rfl, hw, hpr, hl, ha, hn, k⟩ := h
  walk_at "ev"
  have hc : cntR n ≤ 1333333 := by
    have m : ∀ {x y : Nat}, x ≤ y → cntR x ≤ cntR y := fun {x y} h => by
      induction h with
      | refl => exact Nat.le_refl _
      | step h ih => simp only [cntR]; omega
    have := m hn
    have e : cntR 6 = 1333333 := by decide
    omega
  generalize hA : encRs rs = A
  have key : ∀ (rs2 : List Rw) (acc : List DV), WFRs n rs2 → PRs rs2 → acc.length + rs2.length * cntR n < 16000000 → Q (.lst (acc ++ (blkTx rs2 a).map DV.str)) O →
      lc2W false (bind1 2) dYes (dILst (dCall (sp_row_texts n) (dACons (dVar 2) (dACons (dVar 1) dANil)))) (bind1 3) dYes (dVar 3) [3] [some (DV.tup A), some (DV.str a), none, none] Q (encRs rs2) acc O := by
    intro rs2
    induction rs2 with
    | nil => intro acc _ _ _ h; simpa [encRs, blkTx, lc2W_e1, endLc_e1] using h
    | cons r rs2 ih =>
      intro acc h1 hp1 h2 h3
      simp only [encRs]
      walk_at "ev"
      simp only [WFRs] at h1
      simp only [PRs] at hp1
      rw [List.length_cons, Nat.add_mul, Nat.one_mul] at h2
      have hr := rowTx_len r n a h1.1
      refine ⟨r, a, rfl, h1.1, hp1.1, by omega, by omega, ?_⟩
      walk_at "ev"
      refine lcG_pure ((rowTx r a).map DV.str) ((rowTx r a).map DV.str) acc rfl (by rw [List.length_map]; omega) (fun i x y e1 e2 R hR => ?_) ?_
      · rw [e1] at e2; cases e2
        walk_at "ev"
        exact hR
      · refine ih _ h1.2 hp1.2 (by rw [List.length_append, List.length_map]; omega) ?_
        simp only [blkTx, List.map_append] at h3
        rw [List.append_assoc]; exact h3
  rw [← hA]
  subst hA
  refine key rs [] hw hpr ?_ k
  have : rs.length * cntR n ≤ 5 * cntR n := Nat.mul_le_mul_right _ hl
  show 0 + _ < _
  omega
theorem ok_told_texts (T : Tx K w mg) (n : Nat) (G_worth_text : FnOk P w K mg base CX0 (14) T.f_worth_text T.d_worth_text ["e", "level"] (liftSp K (sp_worth_text six))) (G_block_texts : FnOk P w K mg base CX0 (32) T.f_block_texts T.d_block_texts ["rows", "ahead"] (liftSp K (sp_block_texts 4))) : FnOk P w K mg base CX0 (40) T.f_told_texts T.d_told_texts ["one"] (liftSp K (sp_told_texts 0)) := by
  refine DFun.ok T.t_told_texts.fn sc_told_texts (by decide) (by rintro _ _ _ _ ⟨_, rfl, _⟩; rfl) (fun cdv A outer s H E ds O Q ED hr h => ?_)
  have hr_worth_text : Room (14) _ := hr.mono (by omega)
  have hr_block_texts : Room (32) _ := hr.mono (by omega)
  have nd := sc_told_texts.nd
  have hu64 := hr.units
  have hu := hu_of hr
  refine ⟨_, (dss_cons (ds_set 1 (de_if (dt_val (de_ix (dv 0) de_int)) de_str de_str) nd)
      (dss_cons (ds_if (dt_cmp (od_ne hu64) (de_ix (dv 0) de_int) de_str) (dss_one (ds_ret (de_lstF (da_cons (de_op od_add (de_op od_add (de_op od_add (de_op od_add (de_op od_add (dv 1) (de_ix (dv 0) de_int)) de_str) (de_ix (dv 0) de_int)) de_str) (de_call G_worth_text hr_worth_text T.t_worth_text.mg T.t_worth_text.fn.kp T.t_worth_text.bi (da_cons (de_ix (dv 0) de_int) (da_cons de_int da_nil)))) da_nil)))) dss_nil)
      (dss_cons (ds_set 2 (de_bm PySem.F.plainAttrs_str PySem.F.slot_str_join PySem.F.type_str_join md_join de_str (da_cons (de_lc false (own := [("place", 4), ("name", 5), ("kind", 6)]) rfl nd  (di_tup (de_ix (dv 0) de_int)) (blkOk_by (N := N_told_texts) (sc := defScope s_told_texts) (by decide +kernel)) (tgt_N (is := [4, 5, 6]) (by decide) rfl) (fun _ _ _ _ _ => (pg_tup rfl (pgs_cons (pg_name (i := 4) nd rfl (Or.inl rfl)) (pgs_cons (pg_name (i := 5) nd rfl (Or.inl rfl)) (pgs_cons (pg_name (i := 6) nd rfl (Or.inl rfl)) pgs_nil))))) (fun _ _ _ _ _ => dts_nil) (fun _ _ _ _ _ => (de_op od_add (de_op od_add (dv 5) de_str) (dv 6)))) da_nil)) nd)
      (dss_cons (ds_set 3 (de_op od_add (de_op od_add (de_op od_add (de_op od_add (de_op od_add (de_op od_add (dv 1) de_str) (de_ix (dv 0) de_int)) de_str) (dv 2)) de_str) (de_if (dt_cmp (od_ne hu64) (de_ix (dv 0) de_int) de_str) (de_op od_add de_str (de_ix (dv 0) de_int)) de_str)) nd)
      (dss_one (ds_ret (de_op od_add (de_op od_add (de_lstF (da_cons (dv 3) da_nil)) (de_call G_block_texts hr_block_texts T.t_block_texts.mg T.t_block_texts.fn.kp T.t_block_texts.bi (da_cons (de_ix (dv 0) de_int) (da_cons T.e_STEP da_nil)))) (de_lstF (da_cons de_str da_nil))))))))), ?_⟩
  obtain ⟨t, rfl, hw, k⟩ := h
  cases t with
  | val w out m e =>
    simp only [WFT] at hw
    obtain ⟨hw1, hw2, hw3⟩ := hw
    have lx := tx_six (l := 1) hw3
    have lo := outT_len (b := out)
    simp only [encT]
    simp only [toldTx] at k
    rcases hw1 with rfl | rfl
    all_goals
      cases out
      all_goals
        simp only [outT, Bool.false_eq_true, if_true, if_false] at k
        walk_at "go"
        refine ⟨e, 1, rfl, hw3, by omega, six_le, ?_⟩
        walk_at "go"
        exact k
  | dfn out m ps kd rs =>
    have hw0 := hw
    simp only [WFT] at hw
    obtain ⟨h1, h2, h3, h4, h5, h6, h7, h8⟩ := hw
    have lj := prT_join h2 h3
    have lb := blkTx_cnt rs "  "
    simp only [encT]
    simp only [toldTx, hdT] at k
    cases out
    all_goals
      simp only [outT, Bool.false_eq_true, if_true, if_false] at k
      walk_at "go"
      refine lcW_map encP (fun p => .str (prT p)) ps [] (fun p hp K hK => ?_) (by show 0 + _ < _; omega) ?_
      · have := h3 p hp
        simp only [encP]
        walk_at "go"
        exact hK
      wp_walk using strsOf_map
      walk_at "go"
      rcases Decidable.em (kd = Str.ofString "") with q | q
      · rw [if_pos q] at k
        subst q
        walk_at "go"
        refine ⟨rs, Str.ofString "  ", rfl, h5, h6, h7, by decide, by omega, ?_⟩
        walk_at "go"
        simp only [List.map_append, List.map_cons, List.map_nil, List.cons_append, List.nil_append, List.append_assoc] at k ⊢
        exact k
      · rw [if_neg q] at k
        wp_walk using q
        walk_at "go"
        refine ⟨rs, Str.ofString "  ", rfl, h5, h6, h7, by decide, by omega, ?_⟩
        walk_at "go"
        simp only [List.map_append, List.map_cons, List.map_nil, List.cons_append, List.nil_append, List.append_assoc] at k ⊢
        exact k
theorem ok_text_of (T : Tx K w mg) (n : Nat) (G_told_texts : FnOk P w K mg base CX0 (40) T.f_told_texts T.d_told_texts ["one"] (liftSp K (sp_told_texts 0))) : FnOk P w K mg base CX0 (41) T.f_text_of T.d_text_of ["tree"] (liftSp K (sp_text_of 0)) := by
  refine DFun.ok T.t_text_of.fn sc_text_of (by decide) (by rintro _ _ _ _ ⟨_, _, rfl, _⟩; rfl) (fun cdv A outer s H E ds O Q ED hr h => ?_)
  have hr_told_texts : Room (40) _ := hr.mono (by omega)
  have nd := sc_text_of.nd
  have hu64 := hr.units
  have hu := hu_of hr
  refine ⟨_, (dss_cons (ds_asg (dv 0) (dg_tup (n := 2) rfl (dgs_cons (dg_name 1 nd) (dgs_cons (dg_name 2 nd) dgs_nil))))
      (dss_cons (ds_set 3 (de_if (dt_cmp (od_ne hu64) (dv 1) (de_tup da_nil)) (de_lstF (da_cons (de_op od_add de_str (de_bm PySem.F.plainAttrs_str PySem.F.slot_str_join PySem.F.type_str_join md_join de_str (da_cons (de_lc false (own := [("place", 6), ("file", 7)]) rfl nd  (di_tup (dv 1)) (blkOk_by (N := N_text_of) (sc := defScope s_text_of) (by decide +kernel)) (tgt_N (is := [6, 7]) (by decide) rfl) (fun _ _ _ _ _ => (pg_tup rfl (pgs_cons (pg_name (i := 6) nd rfl (Or.inl rfl)) (pgs_cons (pg_name (i := 7) nd rfl (Or.inl rfl)) pgs_nil)))) (fun _ _ _ _ _ => dts_nil) (fun _ _ _ _ _ => (dv 7))) da_nil))) da_nil)) (de_lstF da_nil)) nd)
      (dss_one (ds_ret (de_bm PySem.F.plainAttrs_str PySem.F.slot_str_join PySem.F.type_str_join md_join de_str (da_cons (de_op od_add (dv 3) (de_lc2 false (own := [("one", 4), ("text", 5)]) (vs1 := [5]) rfl nd  (di_tup (dv 2)) (blkOk_by (N := N_text_of) (sc := defScope s_text_of) (by decide +kernel)) (by decide) (tgt_1 (i := 4) (by decide)) (tgt_1 (i := 5) (by decide)) (fun _ _ _ _ _ => (pg_name (i := 4) nd rfl (Or.inl rfl))) (fun _ _ _ _ _ => dts_nil) (fun _ _ _ _ _ => (di_list (de_call G_told_texts hr_told_texts T.t_told_texts.mg T.t_told_texts.fn.kp T.t_told_texts.bi (da_cons (dv 4) da_nil)))) (fun _ _ _ _ _ => (pg_name (i := 5) nd rfl (Or.inl rfl))) (fun _ _ _ _ _ => dts_nil) (fun _ _ _ _ _ => (dv 5)))) da_nil)))))), ?_⟩
  obtain ⟨us, ts, rfl, h1, h2, h3, h4, k⟩ := h
  walk_at "go"
  have hpu : PureS 2 (.tup (us.map fun u => .tup [.non, .str u])) := .tup (n := 1) fun x hx => by
    obtain ⟨u, hu, rfl⟩ := List.mem_map.mp hx
    refine .tup (n := 0) fun y hy => ?_
    simp only [List.mem_cons, List.not_mem_nil, or_false] at hy
    rcases hy with rfl | rfl
    · exact .non
    · exact .str _ (h2 u hu).2
  refine tup_nil hpu (by omega) ?_
  have hc := allTx_cnt h4
  have he := allTx_each h4
  have hse := sum_len_le he
  have hfl : ts.flatMap (fun t => (toldTx t).map DV.str) = (allTx ts).map DV.str := by
    clear hc he hse k h3 h4
    induction ts with
    | nil => rfl
    | cons t ts ih => simp only [List.flatMap_cons, allTx, List.map_append, ih]
  have inner : ∀ (x : DV) (Q2 : DVK), Q2 (.lst ((allTx ts).map DV.str)) O →
      lc2W false (bind1 4) dYes (dILst (dCall (sp_told_texts 0) (dACons (dVar 4) dANil))) (bind1 5) dYes (dVar 5) [5]
          [some (DV.tup [DV.tup (List.map (fun u => DV.tup [DV.non, DV.str u]) us), DV.tup (List.map encT ts)]),
            some (DV.tup (List.map (fun u => DV.tup [DV.non, DV.str u]) us)), some (DV.tup (List.map encT ts)),
            some x, none, none, none, none] Q2 (ts.map encT) [] O := fun x Q2 hQ => by
    refine lc2W_flat encT (fun t => (toldTx t).map DV.str) 125 ts [] (fun t ht => by rw [List.length_map]; exact toldTx_cnt (h4 t ht)) (fun t ht K hK => ?_) (fun t ht S2 e y hy K hK => ?_) (by show 0 + _ < _; omega) (by rw [hfl]; exact hQ)
    · walk_at "go"
      refine ⟨t, rfl, h4 t ht, ?_⟩
      walk_at "go"
      exact hK
    · cases e
      walk_at "go"
      exact hK
  rcases Decidable.em (us = []) with q | q
  · subst q
    wp_walk using List.map_nil, decide_true
    refine inner _ _ ?_
    wp_walk using strsOf_strs
    refine ⟨by rw [lit_nl]; omega, k⟩
  · have hju : ∀ s ∈ us, (tl s).length ≤ 10 := fun s hs => (h2 s hs).1
    have hj := join_len (sep := Str.ofString ", ") hju
    have hjs := sum_len_le hju
    rw [lit_comma] at hj
    have hm : ¬ (us.map (fun u => DV.tup [DV.non, DV.str u]) = []) := by simpa using q
    wp_walk using hm, decide_false
    refine lcW_map (fun u => .tup [.non, .str u]) DV.str us [] (fun p hp K hK => ?_) (by show 0 + _ < _; omega) ?_
    · walk_at "go"
      exact hK
    wp_walk using strsOf_strs
    walk_at "go"
    refine inner _ _ ?_
    wp_walk using strsOf_strs
    refine ⟨?_, ?_⟩
    · rw [List.sum_cons, lit_nl, app_len, lit_use]; omega
    · unfold fileTx useTx at k
      rw [if_neg q] at k
      exact k
theorem ok__law_dice (T : Tx K w mg) : FnOk P w K mg base CX0 1 T.f__law_dice T.d__law_dice ["_law_script"] (liftSp K sp__law_dice) := by
  refine DFun.ok T.t__law_dice.fn sc__law_dice (by decide) (by rintro _ _ _ _ ⟨_, rfl, _⟩; rfl) (fun cdv A outer s H E ds O Q ED hr h => ?_)
  have nd := sc__law_dice.nd
  have hu64 := hr.units
  have hu := hu_of hr
  refine ⟨_, (dss_cons (ds_set 1 de_int nd)
      (dss_cons (ds_for PassesOwn.never rfl (di_list (dv 0)) (dg_name 2 nd) (dss_one (ds_set 1 (de_op od_mod (de_op od_add (de_op od_add (de_op od_mul (dv 1) de_int) (de_op od_mul (de_op od_mod (dv 2) de_int) de_int)) de_int) de_int) nd)))
      (dss_one (ds_ret (de_lstO (da_cons (dv 0) (da_cons de_int (da_cons (de_op od_mul (dv 1) (de_callTy cd_int T.n_int bb_int (da_cons (de_cmp od_gt (de_callB cd_len T.n_len bb_len (da_cons (dv 0) da_nil)) de_int) da_nil))) (da_cons de_int da_nil))))))))), ?_⟩
  obtain ⟨ns, rfl, hn, k⟩ := h
  walk_at "ev"
  refine forW_by (α := Int × Option DV) (fun x => [some (.slst (ns.map DV.int)), some (.int x.1), x.2]) (fun _ => O) _ (fun _ x => 0 ≤ x.1 ∧ x.1 < 2147483647) ?_ ?_ (0, none) rfl rfl ⟨by decide, by decide⟩
  · rintro i ⟨m, cl⟩ d nx e ⟨h1, h2⟩ hn2
    dsimp only at h1 h2
    rw [List.getElem?_map] at e
    cases e0 : ns[i]? with
    | none => rw [e0] at e; cases e
    | some v =>
      rw [e0] at e; cases e
      walk_at "go"
      exact hn2 (_, _) ⟨Int.emod_nonneg _ (by decide), Int.emod_lt_of_pos _ (by decide)⟩
  · rintro ⟨m, cl⟩ ⟨h1, h2⟩
    dsimp only at h1 h2
    walk_at "go"
    refine fun p hp => k p _ hp ?_
    · refine ⟨ns, 0, _, 0, rfl, by decide, ?_, ?_, by decide, hn⟩
      · split <;> omega
      · split <;> omega
theorem ok__law_next (T : Tx K w mg) : FnOk P w K mg base CX0 1 T.f__law_next T.d__law_next ["_law_dice_here", "_law_many"] (liftSp K sp__law_next) := by
  refine DFun.ok T.t__law_next.fn sc__law_next (by decide) (by rintro _ _ _ _ ⟨_, _, _, rfl, _⟩; rfl) (fun cdv A outer s H E ds O Q ED hr h => ?_)
  have nd := sc__law_next.nd
  have hu64 := hr.units
  have hu := hu_of hr
  refine ⟨_, (dss_cons (ds_if (dt_cmp od_gt (de_ix (dv 0) de_int) de_int) (dss_cons (ds_set 2 (de_op od_mod (de_ix (dv 0) de_int) (dv 1)) nd)
      (dss_cons (ds_asg (de_op od_fdiv (de_ix (dv 0) de_int) (dv 1)) (dg_sub (dv 0) de_int psd_list))
      (dss_one (ds_ret (dv 2))))) dss_nil)
      (dss_cons (ds_asg (de_op od_add (de_ix (dv 0) de_int) de_int) (dg_sub (dv 0) de_int psd_list))
      (dss_cons (ds_if (dt_cmp od_le (de_ix (dv 0) de_int) (de_callB cd_len T.n_len bb_len (da_cons (de_ix (dv 0) de_int) da_nil))) (dss_cons (ds_set 3 (de_ix (de_ix (dv 0) de_int) (de_op od_sub (de_ix (dv 0) de_int) de_int)) nd)
      (dss_cons (ds_asg (de_if (dt_cmp od_ge (dv 3) (de_op od_pow de_int de_int)) (de_op od_fdiv (dv 3) (dv 1)) de_int) (dg_sub (dv 0) de_int psd_list))
      (dss_one (ds_ret (de_op od_mod (dv 3) (dv 1)))))) dss_nil)
      (dss_cons (ds_asg (de_op od_mod (de_op od_mul (de_ix (dv 0) de_int) de_int) de_int) (dg_sub (dv 0) de_int psd_list))
      (dss_one (ds_ret (de_op od_mod (de_op od_fdiv (de_ix (dv 0) de_int) de_int) (dv 1)))))))), ?_⟩
  obtain ⟨a, m, c, rfl, hO, ⟨ns, p, mx, lf, rfl, h1, h2, h3, h4, h5⟩, hm, hm2, k⟩ := h
  wp_walk using hO
  refine ite_c (fun q => ?_) (fun q => ?_)
  · wp_walk using hO
    exact k _ _ (Int.emod_nonneg _ (by omega)) (Int.emod_lt_of_pos _ hm) ⟨ns, _, _, _, rfl, h1, h2, h3, Int.ediv_nonneg h4 (by omega), h5⟩
  · wp_walk using hO
    refine ite_c (fun q2 => ?_) (fun q2 => ?_)
    · rw [List.length_map] at q2
      have e : atI (List.map DV.int ns) (p + 1 - 1) = some (.int (ns[p.toNat]'(by omega))) := by
        rw [show p + 1 - 1 = p by omega, atI_pos h1, List.getElem?_map, List.getElem?_eq_getElem (by omega)]; rfl
      generalize ns[p.toNat]'(by omega) = v at e
      wp_walk using e
      refine ite_c (fun q3 => ?_) (fun q3 => ?_)
      · have q4 : (0 : Int) ≤ v := by
          have : (0 : Int) ≤ 10 ^ Int.toNat 18 := by decide
          omega
        walk_at "go"
        exact k _ _ (Int.emod_nonneg _ (by omega)) (Int.emod_lt_of_pos _ hm) ⟨ns, _, _, _, rfl, by omega, h2, h3, Int.ediv_nonneg q4 (by omega), h5⟩
      · walk_at "go"
        exact k _ _ (Int.emod_nonneg _ (by omega)) (Int.emod_lt_of_pos _ hm) ⟨ns, _, _, _, rfl, by omega, h2, h3, by decide, h5⟩
    · walk_at "go"
      exact k _ _ (Int.emod_nonneg _ (by omega)) (Int.emod_lt_of_pos _ hm) ⟨ns, _, _, _, rfl, by omega, Int.emod_nonneg _ (by decide), Int.emod_lt_of_pos _ (by decide), h4, h5⟩
theorem ok__law_like (T : Tx K w mg) : ∀ n : Nat, FnOk P w K mg base CX0 (n + 1) T.f__law_like T.d__law_like ["_law_found", "_law_due"] (liftSp K (sp__law_like n))
| 0 => fn_false (fun ds O Q E h => by obtain ⟨v, d1, d2, m, rfl, hm, h⟩ := h; cases hm)
| n + 1 => by
  have G__law_like := ok__law_like T n
  refine DFun.ok T.t__law_like.fn sc__law_like (by decide) (by rintro _ _ _ _ ⟨_, _, _, _, rfl, _⟩; rfl) (fun cdv A outer s H E ds O Q ED hr h => ?_)
  have hr__law_like : Room (n + 1) _ := hr
  have nd := sc__law_like.nd
  have hu64 := hr.units
  have hu := hu_of hr
  refine ⟨_, (dss_cons (ds_if (dt_w (dw_or (dt_val (de_callB cd_isi T.n_isinstance bb_isinstance (da_cons (dv 1) (da_cons (de_blt T.n_tuple bb_tuple) da_nil)))) (dw_or1 (dt_val (de_callB cd_isi T.n_isinstance bb_isinstance (da_cons (dv 1) (da_cons (de_blt T.n_list bb_list) da_nil))))))) (dss_cons (ds_if (dt_cmp (od_ne hu64) (de_callB cd_isi T.n_isinstance bb_isinstance (da_cons (dv 0) (da_cons (de_blt T.n_tuple bb_tuple) da_nil))) (de_callB cd_isi T.n_isinstance bb_isinstance (da_cons (dv 1) (da_cons (de_blt T.n_tuple bb_tuple) da_nil)))) (dss_one (ds_ret de_bl)) dss_nil)
      (dss_cons (ds_if (dt_w (dw_or (dt_cmp (od_ne hu64) (de_callB cd_isi T.n_isinstance bb_isinstance (da_cons (dv 0) (da_cons (de_blt T.n_list bb_list) da_nil))) (de_callB cd_isi T.n_isinstance bb_isinstance (da_cons (dv 1) (da_cons (de_blt T.n_list bb_list) da_nil)))) (dw_or1 (dt_cmp (od_ne hu64) (de_callB cd_len T.n_len bb_len (da_cons (dv 0) da_nil)) (de_callB cd_len T.n_len bb_len (da_cons (dv 1) da_nil)))))) (dss_one (ds_ret de_bl)) dss_nil)
      (dss_one (ds_ret (de_cmp (od_eq hu64) (de_lc false (own := [("_law_k", 2)]) rfl nd  (di_range1 T.n_range (da_cons (de_callB cd_len T.n_len bb_len (da_cons (dv 1) da_nil)) da_nil)) (blkOk_by (N := N__law_like) (sc := defScope s__law_like) (by decide +kernel)) (tgt_1 (i := 2) (by decide)) (fun _ _ _ _ _ => (pg_name (i := 2) nd rfl (Or.inl rfl))) (fun _ _ _ _ _ => (dts_one (dt_not (dt_val (de_call G__law_like hr__law_like T.t__law_like.mg T.t__law_like.fn.kp T.t__law_like.bi (da_cons (de_ix (dv 0) (dv 2)) (da_cons (de_ix (dv 1) (dv 2)) da_nil))))))) (fun _ _ _ _ _ => (dv 2))) (de_lstF da_nil)))))) dss_nil)
      (dss_cons (ds_if (dt_cmp (od_ne hu64) (de_callB cd_isi T.n_isinstance bb_isinstance (da_cons (dv 0) (da_cons (de_blt T.n_bool bb_bool) da_nil))) (de_callB cd_isi T.n_isinstance bb_isinstance (da_cons (dv 1) (da_cons (de_blt T.n_bool bb_bool) da_nil)))) (dss_one (ds_ret de_bl)) dss_nil)
      (dss_cons (ds_if (dt_w (dw_or (dt_cmp (od_ne hu64) (de_callB cd_isi T.n_isinstance bb_isinstance (da_cons (dv 0) (da_cons (de_blt T.n_int bb_int) da_nil))) (de_callB cd_isi T.n_isinstance bb_isinstance (da_cons (dv 1) (da_cons (de_blt T.n_int bb_int) da_nil)))) (dw_or1 (dt_cmp (od_ne hu64) (de_callB cd_isi T.n_isinstance bb_isinstance (da_cons (dv 0) (da_cons (de_blt T.n_str bb_str) da_nil))) (de_callB cd_isi T.n_isinstance bb_isinstance (da_cons (dv 1) (da_cons (de_blt T.n_str bb_str) da_nil))))))) (dss_one (ds_ret de_bl)) dss_nil)
      (dss_one (ds_ret (de_cmp (od_eq hu64) (dv 0) (dv 1))))))), ?_⟩
  obtain ⟨v, d1, d2, m, rfl, hm, hv, h1, h2, k⟩ := h
  cases hm
  walk_at "ev"
  cases hv with
  | non =>
    have e1 := h1.flat (by rintro _ e; cases e)
    have e2 := h2.flat (by rintro _ e; cases e)
    subst e1; subst e2
    wp_walk using DL.dEqP, DL.toPy
    exact ⟨rfl, rfl, k⟩
  | bl b =>
    have e1 := h1.flat (by rintro _ e; cases e)
    have e2 := h2.flat (by rintro _ e; cases e)
    subst e1; subst e2
    walk_at "go"
    exact k
  | int b =>
    have e1 := h1.flat (by rintro _ e; cases e)
    have e2 := h2.flat (by rintro _ e; cases e)
    subst e1; subst e2
    walk_at "go"
    exact k
  | str b =>
    have e1 := h1.flat (by rintro _ e; cases e)
    have e2 := h2.flat (by rintro _ e; cases e)
    subst e1; subst e2
    walk_at "go"
    exact k
  | tup hx hl =>
    obtain ⟨q1, t1⟩ := Sees.seq.2 h1
    obtain ⟨q2, t2⟩ := Sees.seq.2 h2
    wp_walk using t1, t2
    refine seq_len q1 (seq_len q2 ?_)
    wp_walk using not_true, decide_true, Bool.not_true
    refine seq_len q2 ?_
    wp_walk using not_true
    refine like_all (fun j hj K hK => ?_) (by walk_at "ev"; exact ⟨rfl, rfl, k⟩)
    rw [Int.toNat_natCast] at hj
    walk_at "ev"
    have hg := (List.getElem?_eq_getElem hj)
    refine seq_ix q1 (by rw [atI_nat_]; exact hg) (seq_ix q2 (by rw [atI_nat_]; exact hg) ?_)
    refine ⟨_, _, _, _, rfl, rfl, hx _ (List.getElem_mem hj), .inl rfl, .inl rfl, ?_⟩
    walk_at "ev"
    exact hK
  | lst hx hl =>
    obtain ⟨q1, t1⟩ := Sees.seq.1 h1
    obtain ⟨q2, t2⟩ := Sees.seq.1 h2
    wp_walk using t1, t2
    refine seq_len q1 (seq_len q2 ?_)
    wp_walk using not_true, decide_true, Bool.not_true
    refine seq_len q2 ?_
    wp_walk using not_true
    refine like_all (fun j hj K hK => ?_) (by walk_at "ev"; exact ⟨rfl, rfl, k⟩)
    rw [Int.toNat_natCast] at hj
    walk_at "ev"
    have hg := (List.getElem?_eq_getElem hj)
    refine seq_ix q1 (by rw [atI_nat_]; exact hg) (seq_ix q2 (by rw [atI_nat_]; exact hg) ?_)
    refine ⟨_, _, _, _, rfl, rfl, hx _ (List.getElem_mem hj), .inl rfl, .inl rfl, ?_⟩
    walk_at "ev"
    exact hK
theorem ok__law_pick (T : Tx K w mg) : FnOk P w K mg base CX0 2 T.f__law_pick T.d__law_pick ["_law_d", "_law_some"] (liftSp K sp__law_pick) := by
  refine DFun.ok T.t__law_pick.fn sc__law_pick (by decide) (by rintro _ _ _ _ ⟨_, _, _, _, rfl, _⟩; rfl) (fun cdv A outer s H E ds O Q ED hr h => ?_)
  have nd := sc__law_pick.nd
  have hu64 := hr.units
  have hu := hu_of hr
  have G__law_next := ok__law_next (P := P) (base := base) T
  have hr__law_next : Room 1 _ := hr.mono (by omega)
  refine ⟨_, (dss_one (ds_ret (de_ix (dv 1) (de_call G__law_next hr__law_next T.t__law_next.mg T.t__law_next.fn.kp T.t__law_next.bi (da_cons (dv 0) (da_cons (de_callB cd_len T.n_len bb_len (da_cons (dv 1) da_nil)) da_nil)))))), ?_⟩
  obtain ⟨a, d, c, xs, rfl, hO, hD, hs, hs', h0, h1, k⟩ := h
  walk_at "ev"
  refine seq_len hs ?_
  refine ⟨a, _, c, rfl, hO, hD, by omega, by omega, fun r c' r0 r1 hc => ?_⟩
  have hlt : r.toNat < xs.length := by omega
  refine seq_ix (hs' c') (x := xs[r.toNat]) (by rw [atI_pos r0]; exact List.getElem?_eq_getElem hlt) (k _ (List.getElem_mem _) _ hc)
theorem ok__law_word (T : Tx K w mg) : FnOk P w K mg base CX0 3 T.f__law_word T.d__law_word ["_law_d", "_law_used"] (liftSp K sp__law_word) := by
  refine DFun.ok T.t__law_word.fn sc__law_word (by decide) (by rintro _ _ _ _ ⟨_, _, _, _, rfl, _⟩; rfl) (fun cdv A outer s H E ds O Q ED hr h => ?_)
  have nd := sc__law_word.nd
  have hu64 := hr.units
  have hu := hu_of hr
  have G__law_next := ok__law_next (P := P) (base := base) T
  have hr__law_next : Room 1 _ := hr.mono (by omega)
  refine ⟨_, (dss_cons (ds_set 2 (de_ix de_str (de_call G__law_next hr__law_next T.t__law_next.mg T.t__law_next.fn.kp T.t__law_next.bi (da_cons (dv 0) (da_cons de_int da_nil)))) nd)
      (dss_cons (ds_set 2 (de_op od_add (dv 2) (de_bm PySem.F.plainAttrs_str PySem.F.slot_str_join PySem.F.type_str_join md_join de_str (da_cons (de_lc false (own := [("_law_k", 3)]) rfl nd  (di_range1 T.n_range (da_cons (de_op od_fdiv (de_call G__law_next hr__law_next T.t__law_next.mg T.t__law_next.fn.kp T.t__law_next.bi (da_cons (dv 0) (da_cons de_int da_nil))) de_int) da_nil)) (blkOk_by (N := N__law_word) (sc := defScope s__law_word) (by decide +kernel)) (tgt_1 (i := 3) (by decide)) (fun _ _ _ _ _ => (pg_name (i := 3) nd rfl (Or.inl rfl))) (fun _ _ _ _ _ => dts_nil) (fun _ _ _ _ _ => (de_ix de_str (de_call G__law_next hr__law_next T.t__law_next.mg T.t__law_next.fn.kp T.t__law_next.bi (da_cons (dv 0) (da_cons de_int da_nil)))))) da_nil))) nd)
      (dss_cons (ds_set 3 de_int nd)
      (dss_cons (ds_while PassesOwn.never (dt_cmp od_in (dv 2) (dv 1)) (dss_cons (ds_set 2 (de_op od_add (de_ix de_str (de_op od_mod (dv 3) de_int)) (de_op od_mulS (de_ix de_str (de_op od_mod (de_op od_fdiv (dv 3) de_int) de_int)) (de_op od_add de_int (de_op od_fdiv (dv 3) de_int)))) nd)
      (dss_one (ds_set 3 (de_op od_add (dv 3) de_int) nd))))
      (dss_cons (ds_expr (de_bm PySem.F.plainAttrs_list PySem.F.slot_list_append PySem.F.type_list_append md_append (dv 1) (da_cons (dv 2) da_nil)))
      (dss_one (ds_ret (dv 2)))))))), ?_⟩
  obtain ⟨a, b, c, us, rfl, hab, hO, hD, hb, hu, k⟩ := h
  walk_at "go"
  refine ⟨a, _, c, rfl, hO, hD, by omega, by omega, fun r1 c1 h1 h2 hD1 => ?_⟩
  walk_at "ev"
  have g1 : (tl (Str.ofString "bfhjpqrtvxz"))[r1.toNat]? = some ((tl (Str.ofString "bfhjpqrtvxz"))[r1.toNat]'(by show _ < 11; omega)) := List.getElem?_eq_getElem _
  have m1 := List.getElem_mem (l := tl (Str.ofString "bfhjpqrtvxz")) (n := r1.toNat) (by show _ < 11; omega)
  generalize (tl (Str.ofString "bfhjpqrtvxz"))[r1.toNat]'(by show _ < 11; omega) = ch at g1 m1
  rw [atI_pos h1, g1]
  walk_at "go"
  refine ⟨a, 10, c1, rfl, oset_same, hD1, by omega, by omega, fun r2 c2 h3 h4 hD2 => ?_⟩
  rw [oset_oset]
  walk_at "go"
  refine lcW_by (fun acc O' => ∃ c' l, O' = oset O a c' ∧ Dice c' ∧ acc = l.map (fun x => DV.str ⟨#[x]⟩) ∧ ∀ x ∈ l, x ∈ tl (Str.ofString "abdefilmnostuwy")) _ [] _ ⟨c2, [], rfl, hD2, rfl, by simp⟩ (by rw [List.length_map, List.length_range]; show 0 + _ < _; omega) ?_ ?_
  · rintro x hx acc O' K ⟨c', l, rfl, hD', rfl, hl⟩ hK
    obtain ⟨j, hj, rfl⟩ := List.mem_map.mp hx
    walk_at "ev"
    refine ⟨a, 15, c', rfl, oset_same, hD', by omega, by omega, fun r3 c3 h5 h6 hD3 => ?_⟩
    rw [oset_oset]
    walk_at "ev"
    have g1 : (tl (Str.ofString "abdefilmnostuwy"))[r3.toNat]? = some ((tl (Str.ofString "abdefilmnostuwy"))[r3.toNat]'(by show _ < 15; omega)) := List.getElem?_eq_getElem _
    have m1 := List.getElem_mem (l := tl (Str.ofString "abdefilmnostuwy")) (n := r3.toNat) (by show _ < 15; omega)
    generalize (tl (Str.ofString "abdefilmnostuwy"))[r3.toNat]'(by show _ < 15; omega) = ch at g1 m1
    rw [atI_pos h5, g1]
    walk_at "go"
    refine hK _ _ ⟨c3, l ++ [ch], rfl, hD3, by rw [List.map_append]; rfl, fun x hx => ?_⟩
    rcases List.mem_append.mp hx with hx | hx
    · exact hl x hx
    · simp at hx; subst hx; exact m1
  · rintro acc O' ⟨c', l, rfl, hD', rfl, hl⟩ hlen
    rw [List.length_map, List.length_map, List.length_range] at hlen
    have hl2 : l.length ≤ 2 := by rw [hlen]; show 0 + _ ≤ _; omega
    have hb' : oset O a c' b = some (.lst (us.map DV.str)) := by rw [oset_ne (Ne.symm hab)]; exact hb
    have hw0 : IsName (⟨#[ch]⟩ ++ ofL l) := ⟨ch, l, by rw [tl_append]; rfl, m1, hl, hl2⟩
    wp_walk using strsOf_map, join_chars, sum_ones, List.length_map
    generalize (⟨#[ch]⟩ : Str) ++ ofL l = w0 at hw0
    refine dWhile_by (fun x : Nat × Str => [some (.ref a), some (.ref b), some (.str x.2), some (.int (x.1 : Int))]) (fun _ => oset O a c') (fun x => IsName x.2 ∧ (x.1 = 0 ∨ (x.2 = cand (x.1 - 1) ∧ x.1 ≤ 152 ∧ ∀ j < x.1 - 1, cand j ∈ us))) (fun x => 200 - x.1) (0, w0) rfl rfl ⟨hw0, .inl rfl⟩ ?_
    rintro ⟨m, w1⟩ nx ⟨hn1, hi⟩ hn
    dsimp only at hn1 hi
    wp_walk using hb', inD_strs, flat_strs
    refine ite_c (fun q => ?_) (fun q => ?_)
    · have hm : m ≤ 150 := by
        rcases hi with hi | ⟨hi1, hi2, hi3⟩
        · omega
        · subst hi1
          have := cand_len (us := us) (k := m) (by omega) (fun j hj => by
            by_cases e : j = m - 1
            · subst e; exact q
            · exact hi3 j (by omega))
          omega
      have e1 : atI (tl (Str.ofString "bfhjpqrtvxz")) ((m : Int) % 11) = some (cB.getD (m % 11) 0) := cand_b m
      have e2 : atI (tl (Str.ofString "abdefilmnostuwy")) ((m : Int) / 11 % 15) = some (cV.getD (m / 11 % 15) 0) := cand_v m
      have e3 : (m : Int) / 165 = 0 := by omega
      wp_walk using e1, e2, e3, Int.add_zero, rep_one
      refine hn (m + 1, cand m) ⟨cand_name m, .inr ⟨by simp, by dsimp only; omega, fun j hj => ?_⟩⟩ (by dsimp only; omega)
      dsimp only at hj
      rcases hi with hi | ⟨hi1, hi2, hi3⟩
      · omega
      · by_cases e : j = m - 1
        · subst e; rw [← hi1]; exact q
        · exact hi3 j (by omega)
    · wp_walk using hb'
      have := k w1 c' hn1 q hD'
      simp only [List.map_append, List.map_cons, List.map_nil] at this
      exact this
theorem ok__law_e (T : Tx K w mg) (n : Nat) (G__law_e : FnOk P w K mg base CX0 (n + 4) T.f__law_e T.d__law_e ["_law_d", "_law_kind", "_law_c", "_law_deep"] (liftSp K (sp__law_e n))) : FnOk P w K mg base CX0 (n + 5) T.f__law_e T.d__law_e ["_law_d", "_law_kind", "_law_c", "_law_deep"] (liftSp K (sp__law_e (n + 1))) := by
  refine DFun.ok T.t__law_e.fn sc__law_e (by decide) (by rintro _ _ _ _ ⟨_, _, _, _, _, _, _, _, _, rfl, _⟩; rfl) (fun cdv A outer s H E ds O Q ED hr h => ?_)
  have hr__law_e : Room (n + 4) _ := hr.mono (by omega)
  have nd := sc__law_e.nd
  have hu64 := hr.units
  have hu := hu_of hr
  have G__law_next := ok__law_next (P := P) (base := base) T
  have hr__law_next : Room 1 _ := hr.mono (by omega)
  have G__law_pick := ok__law_pick (P := P) (base := base) T
  have hr__law_pick : Room 2 _ := hr.mono (by omega)
  refine ⟨_, (dss_cons (ds_setLc false 4 (own := [("_law_one", 9)]) rfl nd (sw_true rfl rfl rfl (by decide +kernel)) (di_list (de_dix hu (dv 2) de_str)) (blkOk_by (N := N__law_e) (sc := defScope s__law_e) (by decide +kernel)) (tgt_1 (i := 9) (by decide)) (fun _ _ _ _ _ => (pg_name (i := 9) nd rfl (Or.inl rfl))) (fun _ _ _ _ _ => (dts_one (dt_cmp (od_eq hu64) (de_ix (dv 9) de_int) (dv 1)))) (fun _ _ _ _ _ => (dv 9)))
      (dss_cons (ds_setLc false 5 (own := [("_law_one", 9)]) rfl nd (sw_true rfl rfl rfl (by decide +kernel)) (di_list (de_dix hu (dv 2) de_str)) (blkOk_by (N := N__law_e) (sc := defScope s__law_e) (by decide +kernel)) (tgt_1 (i := 9) (by decide)) (fun _ _ _ _ _ => (pg_name (i := 9) nd rfl (Or.inl rfl))) (fun _ _ _ _ _ => (dts_one (dt_cmp (od_eq hu64) (de_ix (dv 9) de_int) (dv 1)))) (fun _ _ _ _ _ => (dv 9)))
      (dss_cons (ds_set 6 (de_call G__law_next hr__law_next T.t__law_next.mg T.t__law_next.fn.kp T.t__law_next.bi (da_cons (dv 0) (da_cons de_int da_nil))) nd)
      (dss_cons (ds_if (dt_w (dw_and (dt_cmp od_lt (dv 6) de_int) (dw_and1 (dt_cmp (od_ne hu64) (dv 4) (de_lstF da_nil))))) (dss_one (ds_ret (de_op od_add (de_tup (da_cons de_str (da_cons de_non da_nil))) (de_slice (de_call G__law_pick hr__law_pick T.t__law_pick.mg T.t__law_pick.fn.kp T.t__law_pick.bi (da_cons (dv 0) (da_cons (dv 4) da_nil))) (do_some de_int) do_none)))) dss_nil)
      (dss_cons (ds_if (dt_w (dw_and (dt_cmp (od_eq hu64) (dv 6) de_int) (dw_and (dt_cmp od_gt (dv 3) de_int) (dw_and1 (dt_cmp (od_ne hu64) (dv 5) (de_lstF da_nil)))))) (dss_cons (ds_set 9 (de_call G__law_pick hr__law_pick T.t__law_pick.mg T.t__law_pick.fn.kp T.t__law_pick.bi (da_cons (dv 0) (da_cons (dv 5) da_nil))) nd)
      (dss_one (ds_ret (de_tup (da_cons de_str (da_cons de_non (da_cons (de_ix (dv 9) de_int) (da_cons (de_ix (dv 9) de_int) (da_cons (de_callTy cd_tuple T.n_tuple bb_tuple (da_cons (de_lc false (own := [("_law_part", 11)]) rfl nd  (di_tup (de_ix (dv 9) de_int)) (blkOk_by (N := N__law_e) (sc := defScope s__law_e) (by decide +kernel)) (tgt_1 (i := 11) (by decide)) (fun _ _ _ _ _ => (pg_name (i := 11) nd rfl (Or.inl rfl))) (fun _ _ _ _ _ => dts_nil) (fun _ _ _ _ _ => (de_call G__law_e hr__law_e T.t__law_e.mg T.t__law_e.fn.kp T.t__law_e.bi (da_cons (dv 0) (da_cons (dv 11) (da_cons (dv 2) (da_cons de_int da_nil))))))) da_nil)) da_nil))))))))) dss_nil)
      (dss_cons (ds_if (dt_w (dw_or (dt_cmp (od_eq hu64) (dv 3) de_int) (dw_or1 (dt_cmp od_lt (dv 6) de_int)))) (dss_cons (ds_set 10 (de_lstF (da_cons (de_call G__law_next hr__law_next T.t__law_next.mg T.t__law_next.fn.kp T.t__law_next.bi (da_cons (dv 0) (da_cons de_int da_nil))) (da_cons (de_call G__law_next hr__law_next T.t__law_next.mg T.t__law_next.fn.kp T.t__law_next.bi (da_cons (dv 0) (da_cons de_int da_nil))) (da_cons (de_call G__law_next hr__law_next T.t__law_next.mg T.t__law_next.fn.kp T.t__law_next.bi (da_cons (dv 0) (da_cons de_int da_nil))) da_nil)))) nd)
      (dss_one (ds_ret (de_if (dt_cmp (od_eq hu64) (dv 1) de_str) (de_tup (da_cons de_str (da_cons de_non (da_cons (de_call G__law_pick hr__law_pick T.t__law_pick.mg T.t__law_pick.fn.kp T.t__law_pick.bi (da_cons (dv 0) (da_cons (dv 10) da_nil))) da_nil)))) (de_tup (da_cons de_str (da_cons de_non (da_cons (de_cmp (od_eq hu64) (de_call G__law_next hr__law_next T.t__law_next.mg T.t__law_next.fn.kp T.t__law_next.bi (da_cons (dv 0) (da_cons de_int da_nil))) de_int) da_nil)))))))) dss_nil)
      (dss_cons (ds_if (dt_cmp (od_eq hu64) (dv 6) de_int) (dss_one (ds_ret (de_tup (da_cons (de_dix hu (de_dispF (dpp_cons de_str de_str (dpp_cons de_str de_str dpp_nil))) (dv 1)) (da_cons de_non (da_cons (de_call G__law_e hr__law_e T.t__law_e.mg T.t__law_e.fn.kp T.t__law_e.bi (da_cons (dv 0) (da_cons (dv 1) (da_cons (dv 2) (da_cons (de_op od_sub (dv 3) de_int) da_nil))))) da_nil)))))) dss_nil)
      (dss_cons (ds_set 7 (de_call G__law_pick hr__law_pick T.t__law_pick.mg T.t__law_pick.fn.kp T.t__law_pick.bi (da_cons (dv 0) (da_cons (de_if (dt_cmp (od_eq hu64) (dv 1) de_str) (de_dix hu (dv 2) de_str) (de_lstF (da_cons de_str (da_cons de_str (da_cons de_str (da_cons de_str (da_cons de_str (da_cons de_str (da_cons de_str (da_cons de_str da_nil)))))))))) da_nil))) nd)
      (dss_cons (ds_set 8 (de_if (dt_cmp od_in (dv 7) (de_tup (da_cons de_str (da_cons de_str da_nil)))) de_str (de_if (dt_cmp od_in (dv 7) (de_tup (da_cons de_str (da_cons de_str da_nil)))) (de_call G__law_pick hr__law_pick T.t__law_pick.mg T.t__law_pick.fn.kp T.t__law_pick.bi (da_cons (dv 0) (da_cons (de_lstF (da_cons de_str (da_cons de_str da_nil))) da_nil))) de_str)) nd)
      (dss_one (ds_ret (de_tup (da_cons (dv 7) (da_cons de_non (da_cons (de_call G__law_e hr__law_e T.t__law_e.mg T.t__law_e.fn.kp T.t__law_e.bi (da_cons (dv 0) (da_cons (dv 8) (da_cons (dv 2) (da_cons (de_op od_sub (dv 3) de_int) da_nil))))) (da_cons (de_call G__law_e hr__law_e T.t__law_e.mg T.t__law_e.fn.kp T.t__law_e.bi (da_cons (dv 0) (da_cons (dv 8) (da_cons (dv 2) (da_cons (de_op od_sub (dv 3) de_int) da_nil))))) da_nil)))))))))))))))), ?_⟩
  obtain ⟨a, c, kd, dc, kvs, ns, dfs, sg, dp, rfl, hac, hO, hD, hc, hx, hk, hdp, k⟩ := h
  have hca : ∀ (O : Own) (u : Cell), oset O a u c = O c := fun O u => oset_ne (Ne.symm hac)
  obtain ⟨x1, x2, x3, x4, x5, x6, x7, x8⟩ := hx
  wp_walk using hc, hca, x1, x2, x3
  refine lcW_filtM encN encN (fun x => decide (x.1 = kd)) ns [] (fun x hx K hK => ?_) (fun x hx _ K hK => ?_) (by show 0 + _ < _; omega) ?_
  · simp only [encN]
    walk_at "go"
    exact hK
  · walk_at "go"
    exact hK
  have y4 : ∀ x ∈ ns.filter (fun x => decide (x.1 = kd)), OkN x := fun x hx => x4 x ((List.mem_filter.mp hx).1)
  have y6 : (ns.filter (fun x => decide (x.1 = kd))).length ≤ 1000 := Nat.le_trans (List.length_filter_le ..) x6
  generalize ns.filter (fun x => decide (x.1 = kd)) = ns2 at y4 y6
  wp_walk using hc, hca, x1, x2, x3
  refine lcW_filtM encDf encDf (fun x => decide (x.2.2.2 = kd)) dfs [] (fun x hx K hK => ?_) (fun x hx _ K hK => ?_) (by show 0 + _ < _; omega) ?_
  · simp only [encDf]
    walk_at "go"
    exact hK
  · walk_at "go"
    exact hK
  have y5 : ∀ x ∈ dfs.filter (fun x => decide (x.2.2.2 = kd)), OkD x := fun x hx => x5 x ((List.mem_filter.mp hx).1)
  have y7 : (dfs.filter (fun x => decide (x.2.2.2 = kd))).length ≤ 1000 := Nat.le_trans (List.length_filter_le ..) x7
  generalize dfs.filter (fun x => decide (x.2.2.2 = kd)) = df2 at y5 y7
  wp_walk using hc, hca, x1, x2, x3
  refine ⟨a, 12, dc, rfl, hO, hD, by omega, by omega, fun r1 c1 h1 h2 hD1 => ?_⟩
  walk_at "e1"
  refine seq_keep_ (fun R hR => ?_) ?_
  · walk_at "e1"
    refine ite_c (fun q => ?_) (fun q => hR)
    refine lst_nil (n := 1) (fun x hx => by obtain ⟨y, hy, rfl⟩ := List.mem_map.mp hx; exact pure_encN (y4 y hy)) (by omega) ?_
    rcases Decidable.em (ns2 = []) with q2 | q2
    · subst q2; walk_at "e1"; exact hR
    · have hm : ¬ (ns2.map encN = []) := by simpa using q2
      have hl : 0 < ns2.length := List.length_pos_iff.mpr q2
      wp_walk using hm
      refine ⟨a, _, c1, ns2.map encN, rfl, oset_same, hD1, rfl, fun _ => rfl, by rw [List.length_map]; exact hl, by rw [List.length_map]; omega, fun x hx c2 hD2 => ?_⟩
      obtain ⟨y, hy, rfl⟩ := List.mem_map.mp hx
      obtain ⟨z1, z2, z3⟩ := y4 y hy
      rw [oset_oset]
      simp only [encN]
      walk_at "go"
      have := z2.len
      have := isName_len z3
      have e := k (.name y.2.1 y.2.2) c2 (by simp only [WF]; omega) (by simp only [PE]; exact ⟨z2.cps, isName_cps z3⟩) hD2
      simp only [enc] at e
      exact e
  refine seq_keep_ (fun R hR => ?_) ?_
  · walk_at "e1"
    refine ite_c (fun q => ?_) (fun q => hR)
    refine ite_c (fun q1 => ?_) (fun q1 => hR)
    refine lst_nil (n := 2) (fun x hx => by obtain ⟨y, hy, rfl⟩ := List.mem_map.mp hx; exact pure_encDf (y5 y hy)) (by omega) ?_
    rcases Decidable.em (df2 = []) with q2 | q2
    · subst q2; walk_at "e1"; exact hR
    · have hm : ¬ (df2.map encDf = []) := by simpa using q2
      have hl : 0 < df2.length := List.length_pos_iff.mpr q2
      wp_walk using hm
      refine ⟨a, _, c1, df2.map encDf, rfl, oset_same, hD1, rfl, fun _ => rfl, by rw [List.length_map]; exact hl, by rw [List.length_map]; omega, fun x hx c2 hD2 => ?_⟩
      obtain ⟨y, hy, rfl⟩ := List.mem_map.mp hx
      obtain ⟨z1, z2, z3, z4, z5⟩ := y5 y hy
      rw [oset_oset]
      simp only [encDf]
      walk_at "go"
      refine lcW_by (fun acc O' => ∃ (es : List Ex) (c' : Cell), O' = oset O a c' ∧ Dice c' ∧ acc = encL es ∧ WFL 1 es ∧ PEL es) _ [] _ ⟨[], c2, rfl, hD2, rfl, by simp [WFL], by simp [PEL]⟩ (by rw [List.length_map]; show 0 + _ < _; omega) ?_ ?_
      · rintro x hx acc O' K ⟨es, c', rfl, hD', rfl, hw, hp⟩ hK
        obtain ⟨kk, hkk, rfl⟩ := List.mem_map.mp hx
        walk_at "e1"
        refine ⟨a, c, kk, c', kvs, ns, dfs, sg, 0, rfl, hac, oset_same, hD', by rw [hca, hc], ⟨x1, x2, x3, x4, x5, x6, x7, x8⟩, z4 kk hkk, by omega, fun e c3 hwe hpe hD3 => ?_⟩
        rw [oset_oset]
        refine hK _ _ ⟨es ++ [e], c3, rfl, hD3, by simp [encL_map], wfl_app hw ⟨hwe, by simp [WFL]⟩, pel_app hp ⟨hpe, by simp [PEL]⟩⟩
      · rintro acc O' ⟨es, c', rfl, hD', rfl, hw, hp⟩ hlen
        rw [encL_length, List.length_map] at hlen
        have := z1.len
        have := isName_len z2
        walk_at "go"
        have e := k (.call y.1 y.2.1 es) c' (by
          obtain ⟨m, rfl⟩ : ∃ m, dp = m + 1 := ⟨dp - 1, by omega⟩
          simp only [WF]
          exact ⟨by omega, by omega, by rw [hlen]; show 0 + _ ≤ _; omega, wfl_mono hw (by omega)⟩) (by simp only [PE]; exact ⟨z1.cps, isName_cps z2, hp⟩) hD'
        simp only [enc] at e
        exact e
  refine seq_keepP (P := 0 < dp) (fun R hR => ?_) (fun hpos => ?_)
  · walk_at "e1"
    refine ite_c (fun q => ?_) (fun q => ite_c (fun q => ?_) (fun q => hR (by omega)))
    all_goals
      walk_at "go"
      refine ⟨a, 4, c1, rfl, oset_same, hD1, by omega, by omega, fun r2 c2 h3 h4 hD2 => ?_⟩
      rw [oset_oset]
      walk_at "e1"
      refine ⟨a, 100, c2, rfl, oset_same, hD2, by omega, by omega, fun r3 c3 h5 h6 hD3 => ?_⟩
      rw [oset_oset]
      walk_at "e1"
      refine ⟨a, 1000000, c3, rfl, oset_same, hD3, by omega, by omega, fun r4 c4 h7 h8 hD4 => ?_⟩
      rw [oset_oset]
      clear hR
      rcases hk with rfl | rfl
      · walk_at "go"
        refine ⟨a, _, c4, [.int r2, .int r3, .int r4], rfl, oset_same, hD4, rfl, fun _ => rfl, by simp, by simp, fun x hx c5 hD5 => ?_⟩
        rw [oset_oset]
        have hx : ∃ m : Nat, x = .int m ∧ m < 1000000 := by
          simp only [List.mem_cons, List.not_mem_nil, or_false] at hx
          rcases hx with rfl | rfl | rfl
          · exact ⟨r2.toNat, by rw [Int.toNat_of_nonneg h3], by omega⟩
          · exact ⟨r3.toNat, by rw [Int.toNat_of_nonneg h5], by omega⟩
          · exact ⟨r4.toNat, by rw [Int.toNat_of_nonneg h7], by omega⟩
        obtain ⟨m, rfl, hm⟩ := hx
        walk_at "go"
        have e := k (.num m) c5 (by simp only [WF]; exact hm) (by simp only [PE]) hD5
        simp only [enc] at e
        exact e
      · walk_at "go"
        refine ⟨a, 2, c4, rfl, oset_same, hD4, by omega, by omega, fun r5 c5 h9 h10 hD5 => ?_⟩
        rw [oset_oset]
        walk_at "go"
        have e := k (.truth (decide (r5 = 0))) c5 (by simp only [WF]) (by simp only [PE]) hD5
        simp only [enc] at e
        exact e
  obtain ⟨m, rfl⟩ : ∃ m, dp = m + 1 := ⟨dp - 1, by omega⟩
  have hm1 : ((m + 1 : Nat) : Int) - 1 = (m : Int) := by omega
  refine seq_keep_ (fun R hR => ?_) ?_
  · walk_at "e1"
    refine ite_c (fun q => ?_) (fun q => hR)
    rcases hk with rfl | rfl
    · wp_walk using nk_num, hm1
      refine ⟨a, c, _, c1, kvs, ns, dfs, sg, m, rfl, hac, oset_same, hD1, by rw [hca, hc], ⟨x1, x2, x3, x4, x5, x6, x7, x8⟩, .inl rfl, by omega, fun e c3 hwe hpe hD3 => ?_⟩
      rw [oset_oset]
      walk_at "go"
      have e := k (.un true e) c3 (by simp only [WF]; exact hwe) (by simp only [PE]; exact hpe) hD3
      simp only [enc, if_true] at e
      exact e
    · wp_walk using nk_yes, hm1
      refine ⟨a, c, _, c1, kvs, ns, dfs, sg, m, rfl, hac, oset_same, hD1, by rw [hca, hc], ⟨x1, x2, x3, x4, x5, x6, x7, x8⟩, .inr rfl, by omega, fun e c3 hwe hpe hD3 => ?_⟩
      rw [oset_oset]
      walk_at "go"
      have e := k (.un false e) c3 (by simp only [WF]; exact hwe) (by simp only [PE]; exact hpe) hD3
      simp only [enc, Bool.false_eq_true, if_false] at e
      exact e
  refine dSeq_mid (fun S' O' => ∃ (sn : Str) (c2 : Cell), sn ∈ binOps ∧ Dice c2 ∧ O' = oset O a c2 ∧ S' = [some (DV.ref a), some (DV.str kd), some (DV.ref c), some (DV.int ((m + 1 : Nat) : Int)), some (DV.lst (List.map encN ns2)),
      some (DV.lst (List.map encDf df2)), some (DV.int r1), some (.str sn), none, none, none, none]) (fun R hR => ?_) ?_
  · rcases hk with rfl | rfl
    · obtain ⟨s1, s2, s3, s4⟩ := sgs_bin x8
      wp_walk using hca, hc, x3
      refine ⟨a, _, c1, sg.map DV.str, rfl, oset_same, hD1, rfl, fun _ => rfl, by rw [List.length_map]; exact s2, by rw [List.length_map]; omega, fun x hx c2 hD2 => ?_⟩
      obtain ⟨y, hy, rfl⟩ := List.mem_map.mp hx
      rw [oset_oset]
      walk_at "go"
      exact hR _ _ ⟨y, c2, s1 y hy, hD2, rfl, rfl⟩
    · walk_at "go"
      refine ⟨a, _, c1, _, rfl, oset_same, hD1, rfl, fun _ => rfl, by simp, by simp, fun x hx c2 hD2 => ?_⟩
      have hx : ∃ y, x = .str y ∧ y ∈ binOps := by
        simp only [List.mem_cons, List.not_mem_nil, or_false] at hx
        rcases hx with rfl | rfl | rfl | rfl | rfl | rfl | rfl | rfl <;> exact ⟨_, rfl, by decide⟩
      obtain ⟨y, rfl, hy⟩ := hx
      rw [oset_oset]
      walk_at "go"
      exact hR _ _ ⟨y, c2, hy, hD2, rfl, rfl⟩
  rintro S' O' ⟨sn, c2, hsn, hD2, rfl, rfl⟩
  refine dSeq_mid (fun S' O' => ∃ (wn : Str) (c3 : Cell), KN wn ∧ Dice c3 ∧ O' = oset O a c3 ∧ S' = [some (DV.ref a), some (DV.str kd), some (DV.ref c), some (DV.int ((m + 1 : Nat) : Int)), some (DV.lst (List.map encN ns2)),
      some (DV.lst (List.map encDf df2)), some (DV.int r1), some (.str sn), some (.str wn), none, none, none]) (fun R hR => ?_) ?_
  · have hsn2 := hsn
    simp only [binOps, List.mem_cons, List.not_mem_nil, or_false] at hsn2
    have pk : ∀ c2, Dice c2 → ∀ K : DVK, (∀ wn c3, KN wn → Dice c3 → K (.str wn) (oset O a c3)) → callsp sp__law_pick [DV.ref a, DV.lst [DV.str (Str.ofString "num"), DV.str (Str.ofString "yes")]] (oset O a c2) K X0 := fun c2 hD2 K hK => by
      refine ⟨a, _, c2, _, rfl, oset_same, hD2, rfl, fun _ => rfl, by simp, by simp, fun x hx c3 hD3 => ?_⟩
      rw [oset_oset]
      simp only [List.mem_cons, List.not_mem_nil, or_false] at hx
      rcases hx with rfl | rfl
      · exact hK _ _ (.inl rfl) hD3
      · exact hK _ _ (.inr rfl) hD3
    rcases hsn2 with rfl | rfl | rfl | rfl | rfl | rfl | rfl | rfl | rfl | rfl | rfl
    all_goals
      walk_at "go"
      first
        | exact hR _ _ ⟨_, c2, .inl rfl, hD2, rfl, rfl⟩
        | exact hR _ _ ⟨_, c2, .inr rfl, hD2, rfl, rfl⟩
        | exact pk c2 hD2 _ fun wn c3 h3 h4 => hR _ _ ⟨wn, c3, h3, h4, rfl, rfl⟩
  rintro S' O' ⟨wn, c3, hwn, hD3, rfl, rfl⟩
  wp_walk using hm1
  refine ⟨a, c, wn, c3, kvs, ns, dfs, sg, m, rfl, hac, oset_same, hD3, by rw [hca, hc], ⟨x1, x2, x3, x4, x5, x6, x7, x8⟩, hwn, by omega, fun e1 c4 hw1 hp1 hD4 => ?_⟩
  rw [oset_oset]
  wp_walk using hm1
  refine ⟨a, c, wn, c4, kvs, ns, dfs, sg, m, rfl, hac, oset_same, hD4, by rw [hca, hc], ⟨x1, x2, x3, x4, x5, x6, x7, x8⟩, hwn, by omega, fun e2 c5 hw2 hp2 hD5 => ?_⟩
  rw [oset_oset]
  walk_at "go"
  have e := k (.bin sn e1 e2) c5 (by simp only [WF]; exact ⟨hsn, hw1, hw2⟩) (by simp only [PE]; exact ⟨hp1, hp2⟩) hD5
  simp only [enc] at e
  exact e
theorem ok__law_rows (T : Tx K w mg) (n : Nat) (G__law_one_row : FnOk P w K mg base CX0 (2 * n + 13) T.f__law_one_row T.d__law_one_row ["_law_d", "_law_c", "_law_deep"] (liftSp K (sp__law_one_row n))) : FnOk P w K mg base CX0 (2 * n + 14) T.f__law_rows T.d__law_rows ["_law_d", "_law_c", "_law_deep", "_law_many"] (liftSp K (sp__law_rows n)) := by
  refine DFun.ok T.t__law_rows.fn sc__law_rows (by decide) (by rintro _ _ _ _ ⟨_, _, _, _, _, _, _, _, _, _, _, _, _, rfl, _⟩; rfl) (fun cdv A outer s H E ds O Q ED hr h => ?_)
  have hr__law_one_row : Room (2 * n + 13) _ := hr.mono (by omega)
  have nd := sc__law_rows.nd
  have hu64 := hr.units
  have hu := hu_of hr
  refine ⟨_, (dss_cons (ds_par3 4 5 6 nd (da_cons (de_lstO da_nil) (da_cons (de_dix hu (dv 1) de_str) (da_cons (de_dix hu (dv 1) de_str) da_nil))))
      (dss_cons (ds_for PassesOwn.never rfl (di_range1 T.n_range (da_cons (de_callB (cd_min rfl) T.n_min bb_min (da_cons (dv 3) (da_cons (de_dix hu (dv 1) de_str) da_nil))) da_nil)) (dg_name 7 nd) (dss_cons (ds_asg (de_op od_sub (de_dix hu (dv 1) de_str) de_int) (dg_sub (dv 1) de_str (psd_dict hu)))
      (dss_one (ds_expr (de_bm PySem.F.plainAttrs_list PySem.F.slot_list_append PySem.F.type_list_append md_append (dv 4) (da_cons (de_call G__law_one_row hr__law_one_row T.t__law_one_row.mg T.t__law_one_row.fn.kp T.t__law_one_row.bi (da_cons (dv 0) (da_cons (dv 1) (da_cons (dv 2) da_nil)))) da_nil))))))
      (dss_cons (ds_expr (de_bm PySem.F.plainAttrs_dict PySem.F.slot_dict_update PySem.F.type_dict_update (md_update hu) (dv 1) (da_cons (de_disp (dpp_cons de_str (dv 5) (dpp_cons de_str (dv 6) dpp_nil))) da_nil)))
      (dss_one (ds_ret (de_callTy cd_tuple T.n_tuple bb_tuple (da_cons (dv 4) da_nil))))))), ?_⟩
  obtain ⟨a, c, u, dc, ns, kd, l, dfs, ss, sg, us, dp, many, rfl, B, hm, hm0, hdp, hus, hlo, hhi, k⟩ := h
  walk_at "ev"
  intro p hp
  have hcp : ∀ x, oset O p x c = O c := fun x => oset_ne (ne_of B.hc hp)
  wp_walk using hcp, B.hc, bk_names, bk_kind, bk_left, bk_used, bk_defs, bk_sets, bk_signs, bk_pnames, bk_pleft, bk_psets, bk_upd, bk_len, bk_len2
  have pa : p ≠ a := Ne.symm (ne_of B.ha hp)
  have pc : p ≠ c := Ne.symm (ne_of B.hc hp)
  have pu : p ≠ u := Ne.symm (ne_of B.hu hp)
  have hpn : p ∉ [a, c, u] := by simp [pa, pc, pu]
  generalize hcnt : Int.toNat (if l < many then l else many) = cnt
  have hc5 : cnt ≤ 5 := by rw [← hcnt]; split <;> omega
  have hcl : (cnt : Int) ≤ l ∨ cnt = 0 := by rw [← hcnt]; split <;> omega
  refine forW_inv (fun i S O' => ∃ (rs : List Rw) (dc' : Cell) (ns' : List Nm) (ss' : List (Str × Str)) (l' : Int) (us' : List Str) (z : Option DV), S = [some (.ref a), some (.ref c), some (.int (dp : Int)), some (.int many), some (.ref p), some (.lst (ns.map encN)), some (.lst (ss.map encS)), z] ∧ BSt O' a c u dc' ns' kd l' dfs ss' sg us' ∧ O' p = some (.lst (encRs rs)) ∧ Fr O O' [a, c, u] ∧ WFRs (dp + 1) rs ∧ PRs rs ∧ rs.length = i ∧ l' + cRs rs = l ∧ us.length ≤ us'.length ∧ us'.length ≤ us.length + cRs rs ∧ cRs rs + Tn (l - i).toNat ≤ Tn l.toNat)
    ⟨[], dc, ns, ss, l, us, none, rfl, B.garb hp, oset_same, Fr.refl.set (.inr hp), by simp [WFRs], by simp [PRs], rfl, by simp [cRs], Nat.le_refl _, by simp [cRs], by simp [cRs]⟩ ?_ ?_
  · rintro i S O' d nx he ⟨rs, dc', ns', ss', l', us', z, rfl, B', hO, hF, hw, hpr, hrl, hl', hu1, hu2, hu3⟩ hnx
    rw [List.getElem?_map] at he
    have hi : i < cnt := by
      cases hh : (List.range cnt)[i]? with
      | none => rw [hh] at he; cases he
      | some v =>
        have := (List.getElem?_eq_some_iff.mp hh).1
        simpa using this
    rw [List.getElem?_range hi] at he
    cases he
    have hli : (i : Int) + 1 ≤ l := by omega
    have hT : Tn (l - i).toNat = 1 + 3 * Tn (l - i - 1).toNat := by
      obtain ⟨m, hm⟩ : ∃ m : Nat, (l - i).toNat = m + 1 := ⟨(l - i).toNat - 1, by omega⟩
      rw [hm, show (l - i - 1).toNat = m by omega]; rfl
    have hcg := cRs_ge rs
    have hT2 : Tn (l' - 1).toNat ≤ Tn (l - i - 1).toNat := Tn_mono (by omega)
    wp_walk using B'.hc, bk_names, bk_kind, bk_left, bk_used, bk_defs, bk_sets, bk_signs, bk_pnames, bk_pleft, bk_psets, bk_upd, bk_len, bk_len2
    have B2 := B'.ctx (l' := l' - 1) B'.ok
    have hp2 : oset O' c (.dK (BKv (.lst (ns'.map encN)) (.str kd) (.int (l' - 1)) (.ref u) (.lst (dfs.map encDf)) (.lst (ss'.map encS)) (.lst (sg.map DV.str)))) p = some (.lst (encRs rs)) := by rw [oset_ne pc]; exact hO
    wp_walk using hp2
    refine ⟨a, c, u, dc', ns', kd, l' - 1, dfs, ss', sg, us', dp, rfl, B2, hdp, by omega, by omega, by omega, fun r dc2 ns2 ss2 l2 us2 O3 hr1 hr2 hr3 hr4 hr5 hr6 B3 hF3 => ?_⟩
    have hp3 := hF3.at hp2 hpn
    have hlen : (encRs rs).length < 16000000 := by rw [encRs_length]; omega
    wp_walk using hp3
    have hcc : cR r ≤ 1 + 2 * Tn (l - i - 1).toNat := by omega
    refine hnx _ _ ⟨rs ++ [r], dc2, ns2, ss2, l2, us2, _, rfl, ⟨B3.ac, B3.au, B3.cu, by rw [oset_ne (Ne.symm pa)]; exact B3.ha, B3.hd, by rw [oset_ne (Ne.symm pc)]; exact B3.hc, by rw [oset_ne (Ne.symm pu)]; exact B3.hu, B3.ok⟩, by rw [oset_same]; simp [encRs_map], ((hF.set (.inl (by simp))).trans hF3).set (.inr hp), wfrs_app hw ⟨hr1, by simp [WFRs]⟩, prs_app hpr ⟨hr2, by simp [PRs]⟩, by simp [hrl], ?_, by omega, ?_, ?_⟩
    · rw [cRs_app]; simp only [cRs]; omega
    · rw [cRs_app]; simp only [cRs]; omega
    · rw [cRs_app]; simp only [cRs]
      rw [show (l - ((i + 1 : Nat) : Int)) = l - i - 1 by omega]
      omega
  · rintro S O' ⟨rs, dc', ns', ss', l', us', z, rfl, B', hO, hF, hw, hpr, hrl, hl', hu1, hu2, hu3⟩
    rw [List.length_map, List.length_range] at hrl hu3
    wp_walk using B'.hc
    intro q hq
    have hcq : ∀ x, oset O' q x c = O' c := fun x => oset_ne (ne_of B'.hc hq)
    have qc : c ≠ q := ne_of B'.hc hq
    have pq : p ≠ q := ne_of hO hq
    have hq0 : O q = none := hF.none hq (by
      have h1 := ne_of B'.ha hq
      have h3 := ne_of B'.hu hq
      simp [Ne.symm h1, Ne.symm qc, Ne.symm h3])
    have hp4 : ∀ X Y, oset (oset O' q X) c Y p = some (.lst (encRs rs)) := fun X Y => by rw [oset_ne pc, oset_ne pq]; exact hO
    wp_walk using hcq, B'.hc, oset_same, bk_names, bk_kind, bk_left, bk_used, bk_defs, bk_sets, bk_signs, bk_pnames, bk_pleft, bk_psets, bk_upd, bk_len, bk_len2, hp4
    refine k rs dc' l' us' _ hw hpr (by omega) (by omega) hl' hu1 hu2 (by omega) ((B'.garb hq).ctx (ns' := ns) (ss' := ss) (l' := l') (BOk.more ⟨B.ok.on, B.ok.od, B.ok.os, B.ok.ln, B.ok.ls, B.ok.ld, B.ok.sg, B.ok.kd⟩ hu1)) ((hF.set (.inr hq0)).set (.inl (by simp)))
theorem ok__law_one_row (T : Tx K w mg) (n : Nat) (G__law_e : FnOk P w K mg base CX0 (12) T.f__law_e T.d__law_e ["_law_d", "_law_kind", "_law_c", "_law_deep"] (liftSp K (sp__law_e 7))) (G__law_rows : FnOk P w K mg base CX0 (2 * n + 14) T.f__law_rows T.d__law_rows ["_law_d", "_law_c", "_law_deep", "_law_many"] (liftSp K (sp__law_rows n))) : FnOk P w K mg base CX0 (2 * n + 15) T.f__law_one_row T.d__law_one_row ["_law_d", "_law_c", "_law_deep"] (liftSp K (sp__law_one_row (n + 1))) := by
  refine DFun.ok T.t__law_one_row.fn sc__law_one_row (by decide) (by rintro _ _ _ _ ⟨_, _, _, _, _, _, _, _, _, _, _, _, rfl, _⟩; rfl) (fun cdv A outer s H E ds O Q ED hr h => ?_)
  have hr__law_e : Room (12) _ := hr.mono (by omega)
  have hr__law_rows : Room (2 * n + 14) _ := hr.mono (by omega)
  have nd := sc__law_one_row.nd
  have hu64 := hr.units
  have hu := hu_of hr
  have G__law_pick := ok__law_pick (P := P) (base := base) T
  have hr__law_pick : Room 2 _ := hr.mono (by omega)
  have G__law_next := ok__law_next (P := P) (base := base) T
  have hr__law_next : Room 1 _ := hr.mono (by omega)
  have G__law_word := ok__law_word (P := P) (base := base) T
  have hr__law_word : Room 3 _ := hr.mono (by omega)
  refine ⟨_, (dss_cons (ds_par 3 4 nd (da_cons (de_call G__law_next hr__law_next T.t__law_next.mg T.t__law_next.fn.kp T.t__law_next.bi (da_cons (dv 0) (da_cons de_int da_nil))) (da_cons (de_call G__law_pick hr__law_pick T.t__law_pick.mg T.t__law_pick.fn.kp T.t__law_pick.bi (da_cons (dv 0) (da_cons (de_lstF (da_cons de_str (da_cons de_str (da_cons de_str da_nil)))) da_nil))) da_nil)))
      (dss_cons (ds_if (dt_cmp od_lt (dv 3) de_int) (dss_cons (ds_set 5 (de_tup (da_cons de_str (da_cons de_non (da_cons (de_call G__law_word hr__law_word T.t__law_word.mg T.t__law_word.fn.kp T.t__law_word.bi (da_cons (dv 0) (da_cons (de_dix hu (dv 1) de_str) da_nil))) (da_cons (de_call G__law_e hr__law_e T.t__law_e.mg T.t__law_e.fn.kp T.t__law_e.bi (da_cons (dv 0) (da_cons (dv 4) (da_cons (dv 1) (da_cons de_int da_nil))))) da_nil))))) nd)
      (dss_cons (ds_asg (de_tup (da_cons (de_op od_add (de_dix hu (dv 1) de_str) (de_lstF (da_cons (de_tup (da_cons (dv 4) (da_cons de_str (da_cons (de_ix (dv 5) de_int) da_nil)))) da_nil))) (da_cons (de_op od_add (de_dix hu (dv 1) de_str) (de_lstF (da_cons (de_tup (da_cons (dv 4) (da_cons (de_ix (dv 5) de_int) da_nil))) da_nil))) da_nil))) (dg_tup (n := 2) rfl (dgs_cons (dg_sub (dv 1) de_str (psd_dict hu)) (dgs_cons (dg_sub (dv 1) de_str (psd_dict hu)) dgs_nil))))
      (dss_one (ds_ret (dv 5))))) dss_nil)
      (dss_cons (ds_if (dt_w (dw_and (dt_cmp od_lt (dv 3) de_int) (dw_and1 (dt_cmp (od_ne hu64) (de_dix hu (dv 1) de_str) (de_lstF da_nil))))) (dss_cons (ds_asg (de_call G__law_pick hr__law_pick T.t__law_pick.mg T.t__law_pick.fn.kp T.t__law_pick.bi (da_cons (dv 0) (da_cons (de_dix hu (dv 1) de_str) da_nil))) (dg_tup (n := 2) rfl (dgs_cons (dg_name 4 nd) (dgs_cons (dg_name 6 nd) dgs_nil))))
      (dss_one (ds_ret (de_tup (da_cons de_str (da_cons de_non (da_cons (dv 6) (da_cons (de_call G__law_e hr__law_e T.t__law_e.mg T.t__law_e.fn.kp T.t__law_e.bi (da_cons (dv 0) (da_cons (dv 4) (da_cons (dv 1) (da_cons de_int da_nil))))) da_nil)))))))) dss_nil)
      (dss_cons (ds_if (dt_w (dw_and (dt_cmp od_lt (dv 3) de_int) (dw_and1 (dt_cmp od_gt (dv 2) de_int)))) (dss_cons (ds_par 7 8 nd (da_cons (de_call G__law_e hr__law_e T.t__law_e.mg T.t__law_e.fn.kp T.t__law_e.bi (da_cons (dv 0) (da_cons de_str (da_cons (dv 1) (da_cons de_int da_nil))))) (da_cons (de_call G__law_rows hr__law_rows T.t__law_rows.mg T.t__law_rows.fn.kp T.t__law_rows.bi (da_cons (dv 0) (da_cons (dv 1) (da_cons (de_op od_sub (dv 2) de_int) (da_cons (de_op od_add de_int (de_call G__law_next hr__law_next T.t__law_next.mg T.t__law_next.fn.kp T.t__law_next.bi (da_cons (dv 0) (da_cons de_int da_nil)))) da_nil))))) da_nil)))
      (dss_cons (ds_set 9 (de_tup (da_cons de_str (da_cons de_non (da_cons (dv 7) (da_cons (dv 8) da_nil))))) nd)
      (dss_one (ds_ret (de_if (dt_cmp (od_eq hu64) (dv 3) de_int) (dv 9) (de_op od_add (de_op od_add (de_tup (da_cons de_str da_nil)) (de_slice (dv 9) (do_some de_int) do_none)) (de_tup (da_cons (de_call G__law_rows hr__law_rows T.t__law_rows.mg T.t__law_rows.fn.kp T.t__law_rows.bi (da_cons (dv 0) (da_cons (dv 1) (da_cons (de_op od_sub (dv 2) de_int) (da_cons (de_call G__law_next hr__law_next T.t__law_next.mg T.t__law_next.fn.kp T.t__law_next.bi (da_cons (dv 0) (da_cons de_int da_nil))) da_nil))))) da_nil)))))))) dss_nil)
      (dss_cons (ds_if (dt_w (dw_and (dt_cmp (od_eq hu64) (dv 3) de_int) (dw_and1 (dt_cmp (od_eq hu64) (de_call G__law_next hr__law_next T.t__law_next.mg T.t__law_next.fn.kp T.t__law_next.bi (da_cons (dv 0) (da_cons de_int da_nil))) de_int)))) (dss_one (ds_ret (de_tup (da_cons de_str (da_cons de_non (da_cons (de_if (dt_cmp (od_eq hu64) (de_dix hu (dv 1) de_str) de_str) de_non (de_call G__law_e hr__law_e T.t__law_e.mg T.t__law_e.fn.kp T.t__law_e.bi (da_cons (dv 0) (da_cons (de_dix hu (dv 1) de_str) (da_cons (dv 1) (da_cons de_int da_nil)))))) da_nil)))))) dss_nil)
      (dss_cons (ds_if (dt_w (dw_and (dt_cmp (od_eq hu64) (dv 3) de_int) (dw_and1 (dt_cmp (od_ne hu64) (de_dix hu (dv 1) de_str) (de_lstF da_nil))))) (dss_cons (ds_set 10 (de_call G__law_pick hr__law_pick T.t__law_pick.mg T.t__law_pick.fn.kp T.t__law_pick.bi (da_cons (dv 0) (da_cons (de_dix hu (dv 1) de_str) da_nil))) nd)
      (dss_one (ds_ret (de_tup (da_cons de_str (da_cons de_non (da_cons (de_tup (da_cons de_str (da_cons de_non (da_cons (de_ix (dv 10) de_int) (da_cons (de_ix (dv 10) de_int) (da_cons (de_callTy cd_tuple T.n_tuple bb_tuple (da_cons (de_lc false (own := [("_law_part", 11)]) rfl nd  (di_tup (de_ix (dv 10) de_int)) (blkOk_by (N := N__law_one_row) (sc := defScope s__law_one_row) (by decide +kernel)) (tgt_1 (i := 11) (by decide)) (fun _ _ _ _ _ => (pg_name (i := 11) nd rfl (Or.inl rfl))) (fun _ _ _ _ _ => dts_nil) (fun _ _ _ _ _ => (de_call G__law_e hr__law_e T.t__law_e.mg T.t__law_e.fn.kp T.t__law_e.bi (da_cons (dv 0) (da_cons (dv 11) (da_cons (dv 1) (da_cons de_int da_nil))))))) da_nil)) da_nil)))))) da_nil))))))) dss_nil)
      (dss_one (ds_ret (de_tup (da_cons de_str (da_cons de_non (da_cons (de_call G__law_e hr__law_e T.t__law_e.mg T.t__law_e.fn.kp T.t__law_e.bi (da_cons (dv 0) (da_cons (dv 4) (da_cons (dv 1) (da_cons de_int da_nil))))) da_nil)))))))))))), ?_⟩
  obtain ⟨a, c, u, dc, ns, kd, l, dfs, ss, sg, us, dp, rfl, B, hdp, hus, hlo, hhi, k⟩ := h
  walk_at "go"
  refine ⟨a, 14, dc, rfl, B.ha, B.hd, by omega, by omega, fun w c1 w1 w2 hD1 => ?_⟩
  walk_at "e1"
  have B1 := B.dice hD1
  refine ⟨a, _, c1, _, rfl, B1.ha, B1.hd, rfl, fun _ => rfl, by simp, by simp, fun x hx c2 hD2 => ?_⟩
  have hx : ∃ kk, x = .str kk ∧ KN kk := by
    simp only [List.mem_cons, List.not_mem_nil, or_false] at hx
    rcases hx with rfl | rfl | rfl
    · exact ⟨_, rfl, .inl rfl⟩
    · exact ⟨_, rfl, .inl rfl⟩
    · exact ⟨_, rfl, .inr rfl⟩
  obtain ⟨kk, rfl, hkk⟩ := hx
  rw [oset_oset]
  have B2 := B.dice hD2
  have F2 : Fr O (oset O a c2) [a, c, u] := Fr.refl.set (.inl (by simp))
  clear B1 hD1
  generalize hO2 : oset O a c2 = O2 at B2 F2
  walk_at "e1"
  refine seq_keep_ (fun R hR => ?_) ?_
  · walk_at "e1"
    refine ite_c (fun q => ?_) (fun q => hR)
    wp_walk using B2.hc, bk_names, bk_kind, bk_left, bk_used, bk_defs, bk_sets, bk_signs, bk_pnames, bk_pleft, bk_psets, bk_upd, bk_len, bk_len2
    refine ⟨a, u, c2, us, rfl, B2.au, B2.ha, B2.hd, B2.hu, by omega, fun nw c3 hw1 hw2 hD3 => ?_⟩
    have B3 := (B2.dice hD3).used (us ++ [nw]) (by simp)
    have F3 := (F2.set (a := a) (c := c3) (.inl (by simp))).set (a := u) (c := .lst ((us ++ [nw]).map DV.str)) (.inl (by simp))
    generalize oset (oset O2 a c3) u (.lst ((us ++ [nw]).map DV.str)) = O3 at B3 F3
    walk_at "e1"
    refine ⟨a, c, kk, c3, _, ns, dfs, sg, 2, rfl, B3.ac, B3.ha, B3.hd, B3.hc, B3.e (by simp; omega), hkk, by omega, fun e c4 he1 he2 hD4 => ?_⟩
    have B4 := B3.dice hD4
    have F4 := F3.set (a := a) (c := c4) (.inl (by simp))
    generalize oset O3 a c4 = O4 at B4 F4
    have B5 := B4.ctx (ns' := ns ++ [(kk, Str.ofString "", nw)]) (ss' := ss ++ [(kk, nw)]) (l' := l) ⟨fun x hx => by
        rcases List.mem_append.mp hx with hx | hx
        · exact B.ok.on x hx
        · simp only [List.mem_singleton] at hx; subst hx; exact ⟨hkk, .inl rfl, hw1⟩, B.ok.od, fun x hx => by
        rcases List.mem_append.mp hx with hx | hx
        · exact B.ok.os x hx
        · simp only [List.mem_singleton] at hx; subst hx; exact ⟨hkk, hw1⟩, by have := B.ok.ln; simp; omega, by have := B.ok.ls; simp; omega, B.ok.ld, B.ok.sg, B.ok.kd⟩
    have F5 := F4.set (a := c) (c := Cell.dK (BKv (.lst ((ns ++ [(kk, Str.ofString "", nw)]).map encN)) (.str kd) (.int l) (.ref u) (.lst (dfs.map encDf)) (.lst ((ss ++ [(kk, nw)]).map encS)) (.lst (sg.map DV.str)))) (.inl (by simp))
    have hnl := B.ok.ln
    have hsl := B.ok.ls
    wp_walk using B4.hc, bk_names, bk_kind, bk_left, bk_used, bk_defs, bk_sets, bk_signs, bk_pnames, bk_pleft, bk_psets, bk_upd, bk_len, bk_len2, oset_same
    have r := k (.lt true nw e) _ _ _ l (us ++ [nw]) _ (by simp only [WFR]; exact ⟨by have := isName_len hw1; omega, wf_six he1⟩) (by simp only [PR]; exact ⟨isName_cps hw1, he2⟩) (by simp [cR]) (by simp) (by simp [cR]) (by simp [cR]) B5 F5
    simp only [encR, if_true, List.map_append, List.map_cons, List.map_nil, encN, encS] at r
    exact r
  refine seq_keep_ (fun R hR => ?_) ?_
  · walk_at "e1"
    refine ite_c (fun q => ?_) (fun q => hR)
    wp_walk using B2.hc, bk_names, bk_kind, bk_left, bk_used, bk_defs, bk_sets, bk_signs, bk_pnames, bk_pleft, bk_psets, bk_upd, bk_len, bk_len2
    refine lst_nil (n := 1) (fun x hx => by obtain ⟨y, hy, rfl⟩ := List.mem_map.mp hx; exact pure_encS (B.ok.os y hy)) (by omega) ?_
    rcases Decidable.em (ss = []) with q2 | q2
    · subst q2; walk_at "e1"; exact hR
    · have hm : ¬ (ss.map encS = []) := by simpa using q2
      have hl : 0 < ss.length := List.length_pos_iff.mpr q2
      have hsl := B.ok.ls
      wp_walk using hm, B2.hc, bk_names, bk_kind, bk_left, bk_used, bk_defs, bk_sets, bk_signs, bk_pnames, bk_pleft, bk_psets, bk_upd, bk_len, bk_len2
      refine ⟨a, _, c2, ss.map encS, rfl, B2.ha, B2.hd, rfl, fun _ => rfl, by rw [List.length_map]; exact hl, by rw [List.length_map]; omega, fun x hx c3 hD3 => ?_⟩
      obtain ⟨y, hy, rfl⟩ := List.mem_map.mp hx
      obtain ⟨y1, y2⟩ := B.ok.os y hy
      have B3 := B2.dice hD3
      have F3 := F2.set (a := a) (c := c3) (.inl (by simp))
      generalize oset O2 a c3 = O3 at B3 F3
      simp only [encS]
      walk_at "go"
      refine ⟨a, c, y.1, c3, _, ns, dfs, sg, 2, rfl, B3.ac, B3.ha, B3.hd, B3.hc, B3.e (by omega), y1, by omega, fun e c4 he1 he2 hD4 => ?_⟩
      have B4 := B3.dice hD4
      have F4 := F3.set (a := a) (c := c4) (.inl (by simp))
      walk_at "go"
      have r := k (.lt false y.2 e) _ _ _ l us _ (by simp only [WFR]; exact ⟨by have := isName_len y2; omega, wf_six he1⟩) (by simp only [PR]; exact ⟨isName_cps y2, he2⟩) (by simp [cR]) (by simp) (by simp [cR]) (by simp [cR]) B4 F4
      simp only [encR, Bool.false_eq_true, if_false] at r
      exact r
  refine seq_keep_ (fun R hR => ?_) ?_
  · walk_at "e1"
    refine ite_c (fun q => ?_) (fun q => hR)
    refine ite_c (fun q1 => ?_) (fun q1 => hR)
    obtain ⟨m, rfl⟩ : ∃ m, dp = m + 1 := ⟨dp - 1, by omega⟩
    have hm1 : ((m + 1 : Nat) : Int) - 1 = (m : Int) := by omega
    clear hR
    walk_at "go"
    refine ⟨a, c, _, c2, _, ns, dfs, sg, 2, rfl, B2.ac, B2.ha, B2.hd, B2.hc, B2.e (by omega), .inr rfl, by omega, fun t c3 ht1 ht2 hD3 => ?_⟩
    have B3 := B2.dice hD3
    have F3 := F2.set (a := a) (c := c3) (.inl (by simp))
    generalize oset O2 a c3 = O3 at B3 F3
    walk_at "e1"
    refine ⟨a, 4, c3, rfl, B3.ha, B3.hd, by omega, by omega, fun r4 c4 h3 h4 hD4 => ?_⟩
    have B4 := B3.dice hD4
    have F4 := F3.set (a := a) (c := c4) (.inl (by simp))
    generalize oset O3 a c4 = O4 at B4 F4
    wp_walk using hm1
    refine ⟨a, c, u, c4, ns, kd, l, dfs, ss, sg, us, m, 1 + r4, rfl, B4, by omega, by omega, by omega, by omega, by omega, hhi, fun rs c5 l5 us5 O5 hr1 hr2 hr3 hrl3 hl5 hu5 hu6 hc5 B5 F5' => ?_⟩
    have F5 := F4.trans F5'
    walk_at "ev"
    refine ite_c (fun q9 => ?_) (fun q9 => ?_)
    · have r := k (.whl t rs) _ _ _ l5 us5 _ (by simp only [WFR]; exact ⟨wf_six ht1, hr3, hr1⟩) (by simp only [PR]; exact ⟨ht2, hr2⟩) (by simp only [cR]; omega) hu5 (by simp only [cR]; omega) (by simp only [cR]; omega) B5 F5
      simp only [encR] at r
      exact r
    · walk_at "go"
      refine ⟨a, 3, c5, rfl, B5.ha, B5.hd, by omega, by omega, fun r6 c6 h5 h6 hD6 => ?_⟩
      have B6 := B5.dice hD6
      have F6 := F5.set (a := a) (c := c6) (.inl (by simp))
      generalize oset O5 a c6 = O6 at B6 F6
      have hT : Tn l5.toNat ≤ Tn l.toNat := Tn_mono (by omega)
      wp_walk using hm1
      refine ⟨a, c, u, c6, ns, kd, l5, dfs, ss, sg, us5, m, r6, rfl, B6, by omega, by omega, by omega, by omega, by omega, by omega, fun rs2 c7 l7 us7 O7 hr4 hr5 hr6 hrl6 hl7 hu7 hu8 hc7 B7 F7' => ?_⟩
      have F7 := F6.trans F7'
      walk_at "go"
      have r := k (.iff t rs rs2) _ _ _ l7 us7 _ (by simp only [WFR]; exact ⟨wf_six ht1, hr3, hr6, hr1, hr4⟩) (by simp only [PR]; exact ⟨ht2, hr2, hr5⟩) (by simp only [cR]; omega) (by omega) (by simp only [cR]; omega) (by simp only [cR]; omega) B7 F7
      simp only [encR] at r
      exact r
  have kone : ∀ (wd : Str) (e : Ex) (c4 : Cell) (O4 : Own), wd ∈ (["give", "say", "do"] : List Str) → WF six e → PE e → BSt O4 a c u c4 ns kd l dfs ss sg us → Fr O O4 [a, c, u] → Q (.tup [.str wd, .non, enc e]) O4 := fun wd e c4 O4 h1 h2 h3 h4 h5 => by
    have r := k (.one wd (some e)) _ _ _ l us O4 (by simp only [WFR]; exact ⟨h1, h2⟩) (by simp only [PR]; exact h3) (by simp [cR]) (by simp) (by simp [cR]) (by simp [cR]) h4 h5
    simp only [encR, encO] at r
    exact r
  refine dSeq_mid (fun S' O' => ∃ c3, BSt O' a c u c3 ns kd l dfs ss sg us ∧ Fr O O' [a, c, u] ∧ S' = [some (DV.ref a), some (DV.ref c), some (DV.int (dp : Int)), some (DV.int w), some (DV.str kk), none, none, none, none, none, none, none]) (fun R hR => ?_) ?_
  · walk_at "e1"
    refine ite_c (fun q => ?_) (fun q => hR _ _ ⟨c2, B2, F2, rfl⟩)
    refine ⟨a, 3, c2, rfl, B2.ha, B2.hd, by omega, by omega, fun r4 c4 h3 h4 hD4 => ?_⟩
    have B4 := B2.dice hD4
    have F4 := F2.set (a := a) (c := c4) (.inl (by simp))
    generalize oset O2 a c4 = O4 at B4 F4
    walk_at "e1"
    refine ite_c (fun q => ?_) (fun q => hR _ _ ⟨c4, B4, F4, rfl⟩)
    wp_walk using B4.hc, bk_names, bk_kind, bk_left, bk_used, bk_defs, bk_sets, bk_signs, bk_pnames, bk_pleft, bk_psets, bk_upd, bk_len, bk_len2
    refine ite_c (fun q => ?_) (fun q => ?_)
    · have r := k (.one (Str.ofString "give") none) _ _ _ l us O4 (by simp only [WFR]) (by simp only [PR]) (by simp [cR]) (by simp) (by simp [cR]) (by simp [cR]) B4 F4
      simp only [encR, encO] at r
      walk_at "go"
      exact r
    · have hkd : KN kd := by
        rcases B.ok.kd with h | h
        · exact h
        · exact absurd h q
      wp_walk using B4.hc, bk_names, bk_kind, bk_left, bk_used, bk_defs, bk_sets, bk_signs, bk_pnames, bk_pleft, bk_psets, bk_upd, bk_len, bk_len2
      refine ⟨a, c, kd, c4, _, ns, dfs, sg, 2, rfl, B4.ac, B4.ha, B4.hd, B4.hc, B4.e (by omega), hkd, by omega, fun e c5 he1 he2 hD5 => ?_⟩
      walk_at "go"
      exact kone _ e c5 _ (by decide) (wf_six he1) he2 (B4.dice hD5) (F4.set (.inl (by simp)))
  rintro S' O' ⟨c3, B3, F3, rfl⟩
  clear B2 F2 hO2 O2
  refine seq_keep_ (fun R hR => ?_) ?_
  · walk_at "e1"
    refine ite_c (fun q => ?_) (fun q => hR)
    wp_walk using B3.hc, bk_names, bk_kind, bk_left, bk_used, bk_defs, bk_sets, bk_signs, bk_pnames, bk_pleft, bk_psets, bk_upd, bk_len, bk_len2
    refine lst_nil (n := 2) (fun x hx => by obtain ⟨y, hy, rfl⟩ := List.mem_map.mp hx; exact pure_encDf (B.ok.od y hy)) (by omega) ?_
    rcases Decidable.em (dfs = []) with q2 | q2
    · subst q2; walk_at "e1"; exact hR
    · have hm : ¬ (dfs.map encDf = []) := by simpa using q2
      have hl : 0 < dfs.length := List.length_pos_iff.mpr q2
      have hdl := B.ok.ld
      clear hR
      wp_walk using hm, B3.hc, bk_names, bk_kind, bk_left, bk_used, bk_defs, bk_sets, bk_signs, bk_pnames, bk_pleft, bk_psets, bk_upd, bk_len, bk_len2
      refine ⟨a, _, c3, dfs.map encDf, rfl, B3.ha, B3.hd, rfl, fun _ => rfl, by rw [List.length_map]; exact hl, by rw [List.length_map]; omega, fun x hx c4 hD4 => ?_⟩
      obtain ⟨y, hy, rfl⟩ := List.mem_map.mp hx
      obtain ⟨z1, z2, z3, z4, z5⟩ := B.ok.od y hy
      have B4 := B3.dice hD4
      have F4 := F3.set (a := a) (c := c4) (.inl (by simp))
      generalize oset O' a c4 = O4 at B4 F4
      simp only [encDf]
      walk_at "go"
      refine lcW_by (fun acc O5 => ∃ (es : List Ex) (c5 : Cell), BSt O5 a c u c5 ns kd l dfs ss sg us ∧ Fr O O5 [a, c, u] ∧ acc = encL es ∧ WFL 1 es ∧ PEL es) _ [] _ ⟨[], c4, B4, F4, rfl, by simp [WFL], by simp [PEL]⟩ (by rw [List.length_map]; show 0 + _ < _; omega) ?_ ?_
      · rintro x hx acc O5 K ⟨es, c5, B5, F5, rfl, hw, hp⟩ hK
        obtain ⟨kx, hkx, rfl⟩ := List.mem_map.mp hx
        walk_at "e1"
        refine ⟨a, c, kx, c5, _, ns, dfs, sg, 0, rfl, B5.ac, B5.ha, B5.hd, B5.hc, B5.e (by omega), z4 kx hkx, by omega, fun e c6 hwe hpe hD6 => ?_⟩
        exact hK _ _ ⟨es ++ [e], c6, B5.dice hD6, F5.set (.inl (by simp)), by simp [encL_map], wfl_app hw ⟨hwe, by simp [WFL]⟩, pel_app hp ⟨hpe, by simp [PEL]⟩⟩
      · rintro acc O5 ⟨es, c5, B5, F5, rfl, hw, hp⟩ hlen
        rw [encL_length, List.length_map] at hlen
        have := z1.len
        have := isName_len z2
        walk_at "go"
        have r := kone (Str.ofString "do") (.call y.1 y.2.1 es) c5 O5 (by decide) (by
          rw [six_eq]
          simp only [WF]
          exact ⟨by omega, by omega, by rw [hlen]; show 0 + _ ≤ _; omega, wfl_mono hw (by omega)⟩) (by simp only [PE]; exact ⟨z1.cps, isName_cps z2, hp⟩) B5 F5
        simp only [enc] at r
        exact r
  walk_at "go"
  refine ⟨a, c, kk, c3, _, ns, dfs, sg, 2, rfl, B3.ac, B3.ha, B3.hd, B3.hc, B3.e (by omega), hkk, by omega, fun e c4 he1 he2 hD4 => ?_⟩
  walk_at "go"
  exact kone _ e c4 _ (by decide) (wf_six he1) he2 (B3.dice hD4) (F3.set (.inl (by simp)))
theorem ok__law_house (T : Tx K w mg) (n : Nat) (G__law_filled : FnOk P w K mg base CX0 (30) T.f__law_filled T.d__law_filled ["_law_d", "_law_plan", "_law_all_told", "_law_used"] (liftSp K (sp__law_filled 0))) : FnOk P w K mg base CX0 (31) T.f__law_house T.d__law_house ["_law_d", "_law_many", "_law_size"] (liftSp K (sp__law_house 0)) := by
  refine DFun.ok T.t__law_house.fn sc__law_house (by decide) (by rintro _ _ _ _ ⟨_, _, rfl, _⟩; rfl) (fun cdv A outer s H E ds O Q ED hr h => ?_)
  have hr__law_filled : Room (30) _ := hr.mono (by omega)
  have nd := sc__law_house.nd
  have hu64 := hr.units
  have hu := hu_of hr
  have G__law_next := ok__law_next (P := P) (base := base) T
  have hr__law_next : Room 1 _ := hr.mono (by omega)
  have G__law_word := ok__law_word (P := P) (base := base) T
  have hr__law_word : Room 3 _ := hr.mono (by omega)
  have G__law_pick := ok__law_pick (P := P) (base := base) T
  have hr__law_pick : Room 2 _ := hr.mono (by omega)
  refine ⟨_, (dss_cons (ds_asg (de_tup (da_cons de_dnewK (da_cons de_dnewK (da_cons (de_lstO da_nil) (da_cons de_int da_nil))))) (dg_tup (n := 4) rfl (dgs_cons (dg_name 3 nd) (dgs_cons (dg_name 4 nd) (dgs_cons (dg_name 5 nd) (dgs_cons (dg_name 6 nd) dgs_nil))))))
      (dss_cons (ds_for PassesOwn.never rfl (di_range1 T.n_range (da_cons (de_op od_add de_int (de_call G__law_next hr__law_next T.t__law_next.mg T.t__law_next.fn.kp T.t__law_next.bi (da_cons (dv 0) (da_cons (dv 1) da_nil)))) da_nil)) (dg_name 7 nd) (dss_cons (ds_asg (de_tup (da_cons (de_lcO false (own := [("_law_file", 11)]) rfl nd (dv 5) (blkOk_by (N := N__law_house) (sc := defScope s__law_house) (by decide +kernel)) (tgt_1 (i := 11) (by decide)) (fun _ _ _ _ _ => (pg_name (i := 11) nd rfl (Or.inl rfl))) (fun _ _ _ _ _ => (dts_one (dt_cmp od_gt (de_call G__law_next hr__law_next T.t__law_next.mg T.t__law_next.fn.kp T.t__law_next.bi (da_cons (dv 0) (da_cons de_int da_nil))) de_int))) (fun _ _ _ _ _ => (dv 11))) (da_cons (de_lstO da_nil) (da_cons (de_lstO da_nil) da_nil)))) (dg_tup (n := 3) rfl (dgs_cons (dg_name 8 nd) (dgs_cons (dg_name 9 nd) (dgs_cons (dg_name 10 nd) dgs_nil)))))
      (dss_cons (ds_set 11 (de_call G__law_word hr__law_word T.t__law_word.mg T.t__law_word.fn.kp T.t__law_word.bi (da_cons (dv 0) (da_cons (dv 5) da_nil))) nd)
      (dss_cons (ds_for PassesOwn.never rfl (di_range1 T.n_range (da_cons (de_op od_add de_int (de_call G__law_next hr__law_next T.t__law_next.mg T.t__law_next.fn.kp T.t__law_next.bi (da_cons (dv 0) (da_cons (dv 2) da_nil)))) da_nil)) (dg_name 12 nd) (dss_cons (ds_set 16 (de_callTy cd_tuple T.n_tuple bb_tuple (da_cons (de_lc false (own := [("_law_i", 20)]) rfl nd  (di_range1 T.n_range (da_cons (de_call G__law_next hr__law_next T.t__law_next.mg T.t__law_next.fn.kp T.t__law_next.bi (da_cons (dv 0) (da_cons de_int da_nil))) da_nil)) (blkOk_by (N := N__law_house) (sc := defScope s__law_house) (by decide +kernel)) (tgt_1 (i := 20) (by decide)) (fun _ _ _ _ _ => (pg_name (i := 20) nd rfl (Or.inl rfl))) (fun _ _ _ _ _ => dts_nil) (fun _ _ _ _ _ => (de_tup (da_cons de_non (da_cons (de_call G__law_word hr__law_word T.t__law_word.mg T.t__law_word.fn.kp T.t__law_word.bi (da_cons (dv 0) (da_cons (dv 9) da_nil))) (da_cons (de_call G__law_pick hr__law_pick T.t__law_pick.mg T.t__law_pick.fn.kp T.t__law_pick.bi (da_cons (dv 0) (da_cons (de_lstF (da_cons de_str (da_cons de_str da_nil))) da_nil))) da_nil)))))) da_nil)) nd)
      (dss_cons (ds_par 17 18 nd (da_cons (de_call G__law_pick hr__law_pick T.t__law_pick.mg T.t__law_pick.fn.kp T.t__law_pick.bi (da_cons (dv 0) (da_cons (de_lstF (da_cons de_str (da_cons de_str (da_cons de_str (da_cons de_str (da_cons de_str da_nil)))))) da_nil))) (da_cons (de_call G__law_pick hr__law_pick T.t__law_pick.mg T.t__law_pick.fn.kp T.t__law_pick.bi (da_cons (dv 0) (da_cons (de_lstF (da_cons de_str (da_cons de_str (da_cons de_str (da_cons de_str da_nil))))) da_nil))) da_nil)))
      (dss_cons (ds_set 18 (de_if (dt_w (dw_and (dt_cmp (od_ne hu64) (dv 17) de_str) (dw_and1 (dt_cmp (od_eq hu64) (dv 18) de_str)))) de_str (dv 18)) nd)
      (dss_cons (ds_set 17 (de_if (dt_w (dw_and (dt_cmp (od_eq hu64) (dv 17) de_str) (dw_and1 (dt_cmp od_gt (dv 6) de_int)))) de_str (dv 17)) nd)
      (dss_cons (ds_set 6 (de_op od_add (dv 6) (de_callTy cd_int T.n_int bb_int (da_cons (de_cmp (od_eq hu64) (dv 17) de_str) da_nil))) nd)
      (dss_one (ds_expr (de_bm PySem.F.plainAttrs_list PySem.F.slot_list_append PySem.F.type_list_append md_append (dv 10) (da_cons (de_tup (da_cons (dv 17) (da_cons de_non (da_cons (de_cmp od_gt (de_call G__law_next hr__law_next T.t__law_next.mg T.t__law_next.fn.kp T.t__law_next.bi (da_cons (dv 0) (da_cons de_int da_nil))) de_int) (da_cons (de_call G__law_word hr__law_word T.t__law_word.mg T.t__law_word.fn.kp T.t__law_word.bi (da_cons (dv 0) (da_cons (dv 9) da_nil))) (da_cons (dv 16) (da_cons (dv 18) da_nil))))))) da_nil))))))))))
      (dss_cons (ds_frz 10 (ds_set 13 (de_lstO da_nil) nd))
      (dss_cons (ds_for PassesOwn.never rfl (di_list (dv 8)) (dg_name 14 nd) (dss_one (ds_set 13 (de_op od_add (dv 13) (de_dix hu (dv 4) (dv 14))) nd)))
      (dss_cons (ds_asg (de_lc false (own := [("_law_one", 19)]) rfl nd  (di_list (dv 10)) (blkOk_by (N := N__law_house) (sc := defScope s__law_house) (by decide +kernel)) (tgt_1 (i := 19) (by decide)) (fun _ _ _ _ _ => (pg_name (i := 19) nd rfl (Or.inl rfl))) (fun _ _ _ _ _ => (dts_one (dt_val (de_ix (dv 19) de_int)))) (fun _ _ _ _ _ => (de_op od_add (de_tup (da_cons (de_ix (dv 19) de_int) (da_cons (dv 11) da_nil))) (de_slice (dv 19) (do_some de_int) do_none)))) (dg_sub (dv 4) (dv 11) (psd_dict hu)))
      (dss_cons (ds_set 15 (de_call G__law_filled hr__law_filled T.t__law_filled.mg T.t__law_filled.fn.kp T.t__law_filled.bi (da_cons (dv 0) (da_cons (dv 10) (da_cons (de_op od_add (dv 13) (de_lc false (own := [("_law_one", 19)]) rfl nd  (di_list (dv 10)) (blkOk_by (N := N__law_house) (sc := defScope s__law_house) (by decide +kernel)) (tgt_1 (i := 19) (by decide)) (fun _ _ _ _ _ => (pg_name (i := 19) nd rfl (Or.inl rfl))) (fun _ _ _ _ _ => dts_nil) (fun _ _ _ _ _ => (de_op od_add (de_tup (da_cons (de_ix (dv 19) de_int) (da_cons de_str da_nil))) (de_slice (dv 19) (do_some de_int) do_none))))) (da_cons (dv 9) da_nil))))) nd)
      (dss_one (ds_asg (de_tup (da_cons (de_callTy cd_tuple T.n_tuple bb_tuple (da_cons (de_lc false (own := [("_law_other", 14)]) rfl nd  (di_list (dv 8)) (blkOk_by (N := N__law_house) (sc := defScope s__law_house) (by decide +kernel)) (tgt_1 (i := 14) (by decide)) (fun _ _ _ _ _ => (pg_name (i := 14) nd rfl (Or.inl rfl))) (fun _ _ _ _ _ => dts_nil) (fun _ _ _ _ _ => (de_tup (da_cons de_non (da_cons (dv 14) da_nil))))) da_nil)) (da_cons (dv 15) da_nil))) (dg_sub (dv 3) (dv 11) (psd_dict hu))))))))))))
      (dss_one (ds_ret (dv 3))))), ?_⟩
  obtain ⟨a, dc, rfl, hO, hD, k⟩ := h
  walk_at "ev"
  intro pF hpF pA hpA pL hpL
  have hA0 : O pA = none := by rw [oset_ne (Ne.symm (ne_of oset_same hpA))] at hpA; exact hpA
  have hFA : pF ≠ pA := ne_of oset_same hpA
  have hFL : pF ≠ pL := ne_of (O := oset (oset O pF _) pA _) (by rw [oset_ne hFA]; exact oset_same) hpL
  have hAL : pA ≠ pL := ne_of oset_same hpL
  have hL0 : O pL = none := by rw [oset_ne (Ne.symm hAL), oset_ne (Ne.symm hFL)] at hpL; exact hpL
  have H0 : HSt (oset (oset (oset O pF (.dK [])) pA (.dK [])) pL (.lst [])) a pF pA pL dc [] [] [] := ⟨ne_of hO hpF, ne_of hO hA0, ne_of hO hL0, hFA, hFL, hAL, by rw [oset_ne (ne_of hO hL0), oset_ne (ne_of hO hA0), oset_ne (ne_of hO hpF)]; exact hO, hD, by rw [oset_ne hFL, oset_ne hFA, oset_same]; rfl, by rw [oset_ne hAL, oset_same]; rfl, oset_same⟩
  have F0 : Fr O (oset (oset (oset O pF (.dK [])) pA (.dK [])) pL (.lst [])) [a] := ((Fr.refl.set (.inr hpF)).set (.inr hA0)).set (.inr hL0)
  generalize oset (oset (oset O pF (.dK [])) pA (.dK [])) pL (.lst []) = O0 at H0 F0
  clear hpA hpL
  walk_at "ev"
  refine ⟨a, 3, dc, rfl, H0.ha, H0.hd, by omega, by omega, fun r1 dc1 h1 h2 hD1 => ?_⟩
  have H1 := H0.dice hD1
  have F1 := F0.set (a := a) (c := dc1) (.inl (by simp))
  generalize oset O0 a dc1 = O1 at H1 F1
  walk_at "go"
  refine forW_inv (fun i S O' => ∃ (dc' : Cell) (es : List (Str × List Str × List Td)) (fa : List (Str × List At)) (fs : List Str) (cs : Int) (z7 z8 z9 z10 z11 z12 z13 z14 z15 z16 z17 z18 z19 z20 : Option DV), S = [some (.ref a), some (.int 3), some (.int 4), some (.ref pF), some (.ref pA), some (.ref pL), some (.int cs), z7, z8, z9, z10, z11, z12, z13, z14, z15, z16, z17, z18, z19, z20] ∧ HSt O' a pF pA pL dc' es fa fs ∧ Fr O O' [a] ∧ es.map (·.1) = fs ∧ fa.map (·.1) = fs ∧ fs.length = i ∧ (∀ f ∈ fs, IsName f) ∧ (∀ e ∈ es, OkF e) ∧ (∀ e ∈ fa, OkA e))
    ⟨dc1, [], [], [], 0, none, none, none, none, none, none, none, none, none, none, none, none, none, none, rfl, H1, F1, rfl, rfl, rfl, by simp, by simp, by simp⟩ ?_ ?_
  · rintro i S O2 d nx he ⟨dc2, es, fa, fs, cs, z7, z8, z9, z10, z11, z12, z13, z14, z15, z16, z17, z18, z19, z20, rfl, H2, F2, kes, kfa, hfl, hfs, hes, hfa⟩ hnx
    have hi : i ≤ 2 := by
      rw [List.getElem?_map] at he
      cases hh : (List.range (1 + r1).toNat)[i]? with
      | none => rw [hh] at he; cases he
      | some v =>
        have := (List.getElem?_eq_some_iff.mp hh).1
        rw [List.length_range] at this
        omega
    wp_walk using H2.hL
    refine lcWO_by (fun acc O' => ∃ (dc' : Cell) (us : List Str), HSt O' a pF pA pL dc' es fa fs ∧ Fr O O' [a] ∧ acc = us.map DV.str ∧ (∀ u ∈ us, u ∈ fs)) _ [] _ ⟨dc2, [], H2, F2, rfl, by simp⟩ (by rw [List.length_map, hfl]; show 0 + _ < _; omega) (fun acc O' ⟨_, _, h, _⟩ => h.hL) ?_ ?_
    · rintro x hx acc O' R R2 ⟨dc', us, H, F, rfl, hu⟩ hR hR2
      obtain ⟨f, hf, rfl⟩ := List.mem_map.mp hx
      walk_at "e1"
      refine ⟨a, 3, dc', rfl, H.ha, H.hd, by omega, by omega, fun r2 dc3 h3 h4 hD3 => ?_⟩
      walk_at "e1"
      refine ite_c (fun q => ?_) (fun q => ?_)
      · exact hR _ _ ⟨dc3, us ++ [f], H.dice hD3, F.set (.inl (by simp)), by simp, fun u hu2 => by
          rcases List.mem_append.mp hu2 with h | h
          · exact hu u h
          · simp only [List.mem_singleton] at h; subst h; exact hf⟩
      · exact hR2 _ ⟨dc3, us, H.dice hD3, F.set (.inl (by simp)), rfl, hu⟩
    · rintro acc O3 ⟨dc3, us, H3, F3, rfl, hus⟩ hlen
      rw [List.length_map, List.length_map, hfl] at hlen
      have hul : us.length ≤ i := by simpa using hlen
      clear hlen H2 F2
      walk_at "ev"
      intro pU hpU pP hpP
      have nU := H3.new hpU
      have hUP : pP ≠ pU := Ne.symm (ne_of oset_same hpP)
      have hP3 : O3 pP = none := by rw [oset_ne hUP] at hpP; exact hpP
      have nP := H3.new hP3
      have haU : a ≠ pU := ne_of H3.ha hpU
      have haP : a ≠ pP := ne_of H3.ha hP3
      have hLU : pL ≠ pU := ne_of H3.hL hpU
      have hLP : pL ≠ pP := ne_of H3.hL hP3
      have hOU : O pU = none := F3.none hpU (by simp [Ne.symm haU])
      have hOP : O pP = none := F3.none hP3 (by simp [Ne.symm haP])
      have H4 := (H3.sets (X := .lst []) nU).sets (X := .lst []) nP
      have F4 := (F3.set (c := Cell.lst []) (.inr hOU)).set (c := Cell.lst []) (.inr hOP)
      have gU : oset (oset O3 pU (.lst [])) pP (.lst []) pU = some (.lst (([] : List Str).map DV.str)) := by rw [oset_ne (Ne.symm hUP), oset_same]; rfl
      have gP : oset (oset O3 pU (.lst [])) pP (.lst []) pP = some (.lst (([] : List Pl).map encPl)) := oset_same
      generalize oset (oset O3 pU (.lst [])) pP (.lst []) = O4 at H4 F4 gU gP
      clear hpU hpP hP3 H3 F3
      walk_at "ev"
      refine ⟨a, pL, dc3, fs, rfl, H4.aL, H4.ha, H4.hd, H4.hL, by omega, fun fw dc5 hw1 hw2 hD5 => ?_⟩
      have H5 := (H4.dice hD5).files (fs' := fs ++ [fw])
      have F5 := (F4.set (a := a) (c := dc5) (.inl (by simp))).set (a := pL) (c := .lst ((fs ++ [fw]).map DV.str)) (.inr hL0)
      have gU5 : oset (oset O4 a dc5) pL (.lst ((fs ++ [fw]).map DV.str)) pU = _ := ((oset_ne (Ne.symm hLU)).trans (oset_ne (Ne.symm haU))).trans gU
      have gP5 : oset (oset O4 a dc5) pL (.lst ((fs ++ [fw]).map DV.str)) pP = _ := ((oset_ne (Ne.symm hLP)).trans (oset_ne (Ne.symm haP))).trans gP
      generalize oset (oset O4 a dc5) pL (.lst ((fs ++ [fw]).map DV.str)) = O5 at H5 F5 gU5 gP5
      walk_at "ev"
      refine ⟨a, 4, dc5, rfl, H5.ha, H5.hd, by omega, by omega, fun r3 dc6 h5 h6 hD6 => ?_⟩
      have H6 := H5.dice hD6
      have F6 := F5.set (a := a) (c := dc6) (.inl (by simp))
      have gU6 : oset O5 a dc6 pU = _ := (oset_ne (Ne.symm haU)).trans gU5
      have gP6 : oset O5 a dc6 pP = _ := (oset_ne (Ne.symm haP)).trans gP5
      generalize oset O5 a dc6 = O6 at H6 F6 gU6 gP6
      clear H4 F4 gU gP H5 F5 gU5 gP5
      walk_at "go"
      refine forW_inv (fun j S O' => ∃ (dc' : Cell) (pls : List Pl) (us' : List Str) (cs' : Int) (z12 z13 z14 z15 z16 z17 z18 z19 z20 : Option DV), S = [some (.ref a), some (.int 3), some (.int 4), some (.ref pF), some (.ref pA), some (.ref pL), some (.int cs'), some d, some (.lst (us.map DV.str)), some (.ref pU), some (.ref pP), some (.str fw), z12, z13, z14, z15, z16, z17, z18, z19, z20] ∧ HSt O' a pF pA pL dc' es fa (fs ++ [fw]) ∧ O' pU = some (.lst (us'.map DV.str)) ∧ O' pP = some (.lst (pls.map encPl)) ∧ Fr O O' [a] ∧ pls.length = j ∧ us'.length ≤ 4 * j ∧ (∀ p ∈ pls, OkPl p))
        ⟨dc6, [], [], cs, z12, z13, z14, z15, z16, z17, z18, z19, z20, rfl, H6, gU6, gP6, F6, rfl, by simp, by simp⟩ ?_ ?_
      · clear hnx
        rintro j S O7 d2 nx he2 ⟨dc7, pls, us7, cs7, z12, z13, z14, z15, z16, z17, z18, z19, z20, rfl, H7, gU7, gP7, F7, hpl, hul7, hpls⟩ hnx
        have hj : j ≤ 3 := by
          rw [List.getElem?_map] at he2
          cases hh : (List.range (1 + r3).toNat)[j]? with
          | none => rw [hh] at he2; cases he2
          | some v =>
            have := (List.getElem?_eq_some_iff.mp hh).1
            rw [List.length_range] at this
            omega
        walk_at "ev"
        refine ⟨a, 4, dc7, rfl, H7.ha, H7.hd, by omega, by omega, fun r4 dc8 h7 h8 hD8 => ?_⟩
        have H8 := H7.dice hD8
        have F8 := F7.set (a := a) (c := dc8) (.inl (by simp))
        have gU8 : oset O7 a dc8 pU = _ := (oset_ne (Ne.symm haU)).trans gU7
        have gP8 : oset O7 a dc8 pP = _ := (oset_ne (Ne.symm haP)).trans gP7
        generalize oset O7 a dc8 = O8 at H8 F8 gU8 gP8
        clear H7 F7 gU7 gP7
        walk_at "go"
        refine lcW_byL r4.toNat (fun acc O' => ∃ (dc' : Cell) (ps : List (Str × Str)) (us8 : List Str), HSt O' a pF pA pL dc' es fa (fs ++ [fw]) ∧ O' pU = some (.lst (us8.map DV.str)) ∧ O' pP = some (.lst (pls.map encPl)) ∧ Fr O O' [a] ∧ acc = ps.map encP ∧ us8.length = us7.length + ps.length ∧ (∀ q ∈ ps, IsName q.1 ∧ KN q.2)) _ [] _ ⟨dc8, [], us7, H8, gU8, gP8, F8, rfl, rfl, by simp⟩ (by rw [List.length_map, List.length_range]; show 0 + _ = _; omega) (by omega) ?_ ?_
        · rintro x hx acc O9 K hacc ⟨dc9, ps, us9, H9, gU9, gP9, F9, rfl, hul9, hps⟩ hK
          rw [List.length_map] at hacc
          obtain ⟨y, hy, rfl⟩ := List.mem_map.mp hx
          walk_at "e1"
          refine ⟨a, pU, dc9, us9, rfl, haU, H9.ha, H9.hd, gU9, by omega, fun w dcA hn1 hn2 hDA => ?_⟩
          have HA := (H9.dice hDA).sets (X := .lst ((us9 ++ [w]).map DV.str)) nU
          have FA := (F9.set (a := a) (c := dcA) (.inl (by simp))).set (a := pU) (c := .lst ((us9 ++ [w]).map DV.str)) (.inr hOU)
          have gPA : oset (oset O9 a dcA) pU (.lst ((us9 ++ [w]).map DV.str)) pP = _ := ((oset_ne hUP).trans (oset_ne (Ne.symm haP))).trans gP9
          have gUA : oset (oset O9 a dcA) pU (.lst ((us9 ++ [w]).map DV.str)) pU = _ := oset_same
          generalize oset (oset O9 a dcA) pU (.lst ((us9 ++ [w]).map DV.str)) = OA at HA FA gPA gUA
          walk_at "go"
          refine ⟨a, _, dcA, _, rfl, HA.ha, HA.hd, rfl, fun _ => rfl, by simp, by simp, fun x hx dcB hDB => ?_⟩
          have hx : ∃ kk, x = .str kk ∧ KN kk := by
            simp only [List.mem_cons, List.not_mem_nil, or_false] at hx
            rcases hx with rfl | rfl
            · exact ⟨_, rfl, .inl rfl⟩
            · exact ⟨_, rfl, .inr rfl⟩
          obtain ⟨kk, rfl, hkk⟩ := hx
          walk_at "go"
          refine hK _ _ ⟨dcB, ps ++ [(w, kk)], us9 ++ [w], HA.dice hDB, (oset_ne (Ne.symm haU)).trans gUA, (oset_ne (Ne.symm haP)).trans gPA, FA.set (.inl (by simp)), by simp [encP], by simp; omega, fun q hq => ?_⟩
          rcases List.mem_append.mp hq with hq | hq
          · exact hps q hq
          · simp only [List.mem_singleton] at hq; subst hq; exact ⟨hn1, hkk⟩
        rintro acc O9 ⟨dc9, ps, us9, H9, gU9, gP9, F9, rfl, hul9, hps⟩ hacc
        rw [List.length_map] at hacc
        clear H8 F8 gU8 gP8
        walk_at "go"
        refine ⟨a, _, dc9, _, rfl, H9.ha, H9.hd, rfl, fun _ => rfl, by simp, by simp, fun x hx dcA hDA => ?_⟩
        have hx : ∃ w, x = .str w ∧ (w = "const" ∨ w = "keep" ∨ w = "def") := by
          simp only [List.mem_cons, List.not_mem_nil, or_false] at hx
          rcases hx with rfl | rfl | rfl | rfl | rfl
          · exact ⟨_, rfl, .inl rfl⟩
          · exact ⟨_, rfl, .inr (.inl rfl)⟩
          · exact ⟨_, rfl, .inr (.inr rfl)⟩
          · exact ⟨_, rfl, .inr (.inr rfl)⟩
          · exact ⟨_, rfl, .inr (.inr rfl)⟩
        obtain ⟨w0, rfl, hw0⟩ := hx
        have HA := H9.dice hDA
        have FA := F9.set (a := a) (c := dcA) (.inl (by simp))
        have gUA : oset O9 a dcA pU = _ := (oset_ne (Ne.symm haU)).trans gU9
        have gPA : oset O9 a dcA pP = _ := (oset_ne (Ne.symm haP)).trans gP9
        generalize oset O9 a dcA = OA at HA FA gUA gPA
        walk_at "go"
        refine ⟨a, _, dcA, _, rfl, HA.ha, HA.hd, rfl, fun _ => rfl, by simp, by simp, fun x hx dcB hDB => ?_⟩
        have hx : ∃ w, x = .str w ∧ (w = "num" ∨ w = "yes" ∨ w = "") := by
          simp only [List.mem_cons, List.not_mem_nil, or_false] at hx
          rcases hx with rfl | rfl | rfl | rfl
          · exact ⟨_, rfl, .inl rfl⟩
          · exact ⟨_, rfl, .inr (.inl rfl)⟩
          · exact ⟨_, rfl, .inr (.inr rfl)⟩
          · exact ⟨_, rfl, .inl rfl⟩
        obtain ⟨k0, rfl, hk0⟩ := hx
        have HB := HA.dice hDB
        have FB := FA.set (a := a) (c := dcB) (.inl (by simp))
        have gUB : oset OA a dcB pU = _ := (oset_ne (Ne.symm haU)).trans gUA
        have gPB : oset OA a dcB pP = _ := (oset_ne (Ne.symm haP)).trans gPA
        generalize oset OA a dcB = OB at HB FB gUB gPB
        clear HA FA gUA gPA H9 F9 gU9 gP9
        try (walk_at "e1")
        refine dSeq_mid3 (fun S' O' => O' = OB ∧ ∃ (w kd : Str) (cs8 : Int), KdW w kd ∧ S' = [some (.ref a), some (.int 3), some (.int 4), some (.ref pF), some (.ref pA), some (.ref pL), some (.int cs8), some d, some (.lst (us.map DV.str)), some (.ref pU), some (.ref pP), some (.str fw), some d2, z13, z14, z15, some (.tup (ps.map encP)), some (.str w), some (.str kd), z19, z20]) (fun R hR => ?_) ?_
        · rcases hw0 with rfl | rfl | rfl <;> rcases hk0 with rfl | rfl | rfl <;> walk_at "go" <;> first
            | exact hR _ _ ⟨rfl, _, _, _, .inl ⟨.inl rfl, .inl rfl⟩, rfl⟩
            | exact hR _ _ ⟨rfl, _, _, _, .inl ⟨.inl rfl, .inr rfl⟩, rfl⟩
            | exact hR _ _ ⟨rfl, _, _, _, .inl ⟨.inr rfl, .inl rfl⟩, rfl⟩
            | exact hR _ _ ⟨rfl, _, _, _, .inl ⟨.inr rfl, .inr rfl⟩, rfl⟩
            | exact hR _ _ ⟨rfl, _, _, _, .inr ⟨rfl, .inl (.inl rfl)⟩, rfl⟩
            | exact hR _ _ ⟨rfl, _, _, _, .inr ⟨rfl, .inl (.inr rfl)⟩, rfl⟩
            | exact hR _ _ ⟨rfl, _, _, _, .inr ⟨rfl, .inr rfl⟩, rfl⟩
            | (refine ite_c (fun q => ?_) (fun q => ?_) <;> walk_at "go" <;> first
                | exact hR _ _ ⟨rfl, _, _, _, .inl ⟨.inl rfl, .inl rfl⟩, rfl⟩
                | exact hR _ _ ⟨rfl, _, _, _, .inl ⟨.inl rfl, .inr rfl⟩, rfl⟩
                | exact hR _ _ ⟨rfl, _, _, _, .inl ⟨.inr rfl, .inl rfl⟩, rfl⟩
                | exact hR _ _ ⟨rfl, _, _, _, .inl ⟨.inr rfl, .inr rfl⟩, rfl⟩)
        rintro S' O' ⟨rfl, w, kd, cs8, hkw, rfl⟩
        wp_walk using gPB
        refine ⟨a, 3, dcB, rfl, HB.ha, HB.hd, by omega, by omega, fun r5 dcC h9 h10 hDC => ?_⟩
        have HC := HB.dice hDC
        have FC := FB.set (a := a) (c := dcC) (.inl (by simp))
        have gUC : oset O' a dcC pU = _ := (oset_ne (Ne.symm haU)).trans gUB
        have gPC : oset O' a dcC pP = _ := (oset_ne (Ne.symm haP)).trans gPB
        generalize oset O' a dcC = OC at HC FC gUC gPC
        walk_at "ev"
        refine ⟨a, pU, dcC, us9, rfl, haU, HC.ha, HC.hd, gUC, by omega, fun nw dcD hn1 hn2 hDD => ?_⟩
        have HD := (HC.dice hDD).sets (X := .lst ((us9 ++ [nw]).map DV.str)) nU
        have FD := (FC.set (a := a) (c := dcD) (.inl (by simp))).set (a := pU) (c := .lst ((us9 ++ [nw]).map DV.str)) (.inr hOU)
        have gPD : oset (oset OC a dcD) pU (.lst ((us9 ++ [nw]).map DV.str)) pP = _ := ((oset_ne hUP).trans (oset_ne (Ne.symm haP))).trans gPC
        have gUD : oset (oset OC a dcD) pU (.lst ((us9 ++ [nw]).map DV.str)) pU = _ := oset_same
        generalize oset (oset OC a dcD) pU (.lst ((us9 ++ [nw]).map DV.str)) = OD at HD FD gPD gUD
        wp_walk using gPD
        refine hnx _ _ ⟨dcD, pls ++ [⟨w, decide (0 < r5), nw, ps, kd⟩], us9 ++ [nw], cs8, _, _, _, _, _, _, _, _, _, rfl, HD.sets nP, (oset_ne (Ne.symm hUP)).trans gUD, by rw [oset_same]; simp [encPl], FD.set (.inr hOP), by simp [hpl], by simp; omega, fun p hp => ?_⟩
        rcases List.mem_append.mp hp with hp | hp
        · exact hpls p hp
        · simp only [List.mem_singleton] at hp; subst hp; exact ⟨hn1, ⟨by show ps.length ≤ 3; omega, hps⟩, hkw⟩
      · rintro S O7 ⟨dc7, pls, us7, cs7, z12, z13, z14, z15, z16, z17, z18, z19, z20, rfl, H7, gU7, gP7, F7, hpl, hul7, hpls⟩
        rw [List.length_map, List.length_range] at hpl hul7
        clear H6 F6 gU6 gP6
        have hkes : es.length = i := by rw [← hfl, ← kes, List.length_map]
        have hkfa : fa.length = i := by rw [← hfl, ← kfa, List.length_map]
        wp_walk using gP7
        intro pO hpO
        have hO7 : O7 pO = none ∨ pO = pP := by
          by_cases e : pO = pP
          · exact .inr e
          · rw [odel_ne e] at hpO; exact .inl hpO
        have H8 := H7.dels nP
        have F8 := F7.del (a := pP) (.inr hOP)
        have gU8 : odel O7 pP pU = some (.lst (us7.map DV.str)) := by rw [odel_ne (Ne.symm hUP)]; exact gU7
        generalize odel O7 pP = O8 at H8 F8 gU8 hpO
        have nO := H8.new hpO
        have hUO : pU ≠ pO := ne_of gU8 hpO
        have haO : pO ≠ a := Ne.symm (ne_of H8.ha hpO)
        have H9 := H8.sets (X := .lst []) nO
        have F9 := F8.set (a := pO) (c := .lst []) (.inr (F8.none hpO (by simp [haO])))
        have gU9 : oset O8 pO (.lst []) pU = _ := (oset_ne hUO).trans gU8
        have gO9 : oset O8 pO (.lst []) pO = some (.lst []) := oset_same
        generalize oset O8 pO (.lst []) = O9 at H9 F9 gU9 gO9
        clear H7 F7 gU7 gP7 H8 F8 gU8
        walk_at "ev"
        refine forW_inv (fun j S O' => O' = O9 ∧ ∃ (dv : DV) (ats : List At) (z14 z15 z16 z17 z18 z19 z20 : Option DV), S = [some (.ref a), some (.int 3), some (.int 4), some (.ref pF), some (.ref pA), some (.ref pL), some (.int cs7), some d, some (.lst (us.map DV.str)), some (.ref pU), some (.lst (pls.map encPl)), some (.str fw), z12, some dv, z14, z15, z16, z17, z18, z19, z20] ∧ ((dv = .ref pO ∧ ats = []) ∨ dv = .lst (ats.map encAt)) ∧ ats.length ≤ 4 * j ∧ (∀ x ∈ ats, OkAt x))
          ⟨rfl, .ref pO, [], z14, z15, z16, z17, z18, z19, z20, rfl, .inl ⟨rfl, rfl⟩, by simp, by simp⟩ ?_ ?_
        · clear hnx
          rintro j S O' d2 nx he2 ⟨rfl, dv, ats, z14, z15, z16, z17, z18, z19, z20, rfl, hdv, hal, hats⟩ hnx
          rw [List.getElem?_map] at he2
          cases e0 : us[j]? with
          | none => rw [e0] at he2; cases he2
          | some f =>
            rw [e0] at he2; cases he2
            have hfm := hus f (List.mem_of_getElem? e0)
            have hj : j < us.length := (List.getElem?_eq_some_iff.mp e0).1
            rw [← kfa] at hfm
            obtain ⟨at2, hm2, hg2⟩ := dget_fa hfm
            have ho2 := hfa _ hm2
            have hl2 : at2.length ≤ 4 := ho2.1
            rcases hdv with ⟨rfl, rfl⟩ | rfl
            · wp_walk using gO9, H9.hA, hg2
              exact hnx _ _ ⟨rfl, _, at2, _, _, _, _, _, _, _, rfl, .inr rfl, by omega, ho2.2⟩
            · wp_walk using H9.hA, hg2
              refine hnx _ _ ⟨rfl, _, ats ++ at2, _, _, _, _, _, _, _, rfl, .inr (by rw [List.map_append]), by rw [List.length_append]; omega, fun x hx => ?_⟩
              rcases List.mem_append.mp hx with hx | hx
              · exact hats x hx
              · exact ho2.2 x hx
        rintro S O' ⟨rfl, dv, ats, z14, z15, z16, z17, z18, z19, z20, rfl, hdv, hal, hats⟩
        rw [List.length_map] at hal
        have hfw : ∀ e ∈ fa, e.1 ≠ fw := fun e he q => hw2 (by rw [← kfa, ← q]; exact List.mem_map_of_mem he)
        have hew : ∀ e ∈ es, e.1 ≠ fw := fun e he q => hw2 (by rw [← kes, ← q]; exact List.mem_map_of_mem he)
        walk_at "ev"
        refine lcW_filtM encPl (fun p => encAt (plA fw p)) (fun p => p.out) pls [] (fun x hx K hK => ?_) (fun x hx _ K hK => ?_) (by show 0 + _ < _; omega) ?_
        · simp only [encPl]
          walk_at "e1"
          exact hK
        · simp only [encPl]
          wp_walk using cutD_three
          exact hK
        have d1 : dput (fa.map encFa) (Sum.inr fw) (DV.lst ((pls.filter (fun p => p.out)).map (fun p => encAt (plA fw p)))) = (fa ++ [(fw, (pls.filter (fun p => p.out)).map (plA fw))]).map encFa := by
          rw [dput_new (fun e he => by
            obtain ⟨y, hy, rfl⟩ := List.mem_map.mp he
            intro q; exact hfw y hy (Sum.inr.inj q)), List.map_append]
          simp only [List.map_cons, List.map_nil, encFa, List.map_map]
          rfl
        wp_walk using H9.hA, d1
        have hT := H9.face (fa' := fa ++ [(fw, (pls.filter (fun p => p.out)).map (plA fw))])
        have FT := F9.set (a := pA) (c := .dK ((fa ++ [(fw, (pls.filter (fun p => p.out)).map (plA fw))]).map encFa)) (.inr hA0)
        have nU2 := nU
        simp only [List.mem_cons, List.not_mem_nil, or_false, not_or] at nU2
        have hAO : pO ≠ pA := fun e => nO (by simp [e])
        have gUT : oset O' pA (.dK ((fa ++ [(fw, (pls.filter (fun p => p.out)).map (plA fw))]).map encFa)) pU = _ := (oset_ne nU2.2.2.1).trans gU9
        have gOT : oset O' pA (.dK ((fa ++ [(fw, (pls.filter (fun p => p.out)).map (plA fw))]).map encFa)) pO = _ := (oset_ne hAO).trans gO9
        generalize oset O' pA (.dK ((fa ++ [(fw, (pls.filter (fun p => p.out)).map (plA fw))]).map encFa)) = OT at hT FT gUT gOT
        refine lcW_map encPl (fun p => encAt (plA (Str.ofString "") p)) pls [] (fun p hp K hK => ?_) (by show 0 + _ < _; omega) ?_
        · simp only [encPl]
          wp_walk using cutD_three
          exact hK
        have own : pls.map (fun p => encAt (plA (Str.ofString "") p)) = (pls.map (plA (Str.ofString ""))).map encAt := by rw [List.map_map]; rfl
        rw [List.nil_append, own]
        have fin : callsp (sp__law_filled 0) [DV.ref a, DV.lst (List.map encPl pls), DV.lst ((ats ++ pls.map (plA (Str.ofString ""))).map encAt), DV.ref pU] OT (fun x O1 =>
            lcW false (bind1 14) dYes (dTup (dACons (dC DV.non) (dACons (dVar 14) dANil)))
              [some (DV.ref a), some (DV.int 3), some (DV.int 4), some (DV.ref pF), some (DV.ref pA), some (DV.ref pL),
                some (DV.int cs7), some d, some (DV.lst (List.map DV.str us)), some (DV.ref pU),
                some (DV.lst (List.map encPl pls)), some (DV.str fw), z12, some dv, none, some x, z16, z17, z18, z19,
                z20]
              (fun x_1 O1 =>
                dTupOf [x_1] O1 fun x_2 O1 =>
                  onK (O1 pF) fun es =>
                    es.length < 16000000 ∧
                      nx
                        [some (DV.ref a), some (DV.int 3), some (DV.int 4), some (DV.ref pF), some (DV.ref pA),
                          some (DV.ref pL), some (DV.int cs7), some d, some (DV.lst (List.map DV.str us)),
                          some (DV.ref pU), some (DV.lst (List.map encPl pls)), some (DV.str fw), z12, some dv, z14,
                          some x, z16, z17, z18, z19, z20]
                        (oset O1 pF (Cell.dK (dput es (Sum.inr fw) (DV.tup [x_2, x])))))
              (List.map DV.str us) [] O1) X0 := by
          refine ⟨a, pU, dc7, pls, ats ++ pls.map (plA (Str.ofString "")), us7, rfl, haU, hT.ha, hT.hd, gUT, by omega, by omega, by rw [List.length_append, List.length_map]; omega, hpls, fun x hx => ?_, fun ts dc9 OF ht1 ht2 hd9 ha9 hF9 => ?_⟩
          · rcases List.mem_append.mp hx with hx | hx
            · exact hats x hx
            · obtain ⟨p, hp, rfl⟩ := List.mem_map.mp hx
              exact okA_pl (.inl rfl) (hpls p hp)
          have H10 := hT.fr hF9 ha9 hd9
          have F10 := FT.trans hF9
          refine lcW_map DV.str encU us [] (fun u hu K hK => ?_) (by show 0 + _ < _; omega) ?_
          · walk_at "go"
            exact hK
          have d2 : dput (es.map encFl) (Sum.inr fw) (DV.tup [DV.tup (us.map encU), DV.tup (ts.map encT)]) = (es ++ [(fw, us, ts)]).map encFl := by
            rw [dput_new (fun e he => by
              obtain ⟨y, hy, rfl⟩ := List.mem_map.mp he
              intro q; exact hew y hy (Sum.inr.inj q)), List.map_append]
            rfl
          wp_walk using H10.hF, d2
          refine hnx _ _ ⟨dc9, es ++ [(fw, us, ts)], fa ++ [(fw, (pls.filter (fun p => p.out)).map (plA fw))], fs ++ [fw], cs7, _, _, _, _, _, _, _, _, _, _, _, _, _, _, rfl, H10.find, F10.set (.inr hpF), by simp [kes], by simp [kfa], by simp [hfl], fun f hf => ?_, fun e he => ?_, fun e he => ?_⟩
          · rcases List.mem_append.mp hf with hf | hf
            · exact hfs f hf
            · simp only [List.mem_singleton] at hf; subst hf; exact hw1
          · rcases List.mem_append.mp he with he | he
            · exact hes e he
            · simp only [List.mem_singleton] at he; subst he
              exact ⟨by show us.length ≤ 3; omega, fun u hu => hfs u (hus u hu), ht2, ht1⟩
          · rcases List.mem_append.mp he with he | he
            · exact hfa e he
            · simp only [List.mem_singleton] at he; subst he
              refine ⟨?_, fun x hx => ?_⟩
              · show ((pls.filter (fun p => p.out)).map (plA fw)).length ≤ 4
                rw [List.length_map]
                have := List.length_filter_le (fun p : Pl => p.out) pls
                omega
              · obtain ⟨p, hp, rfl⟩ := List.mem_map.mp hx
                exact okA_pl (.inr hw1) (hpls p (List.mem_filter.mp hp).1)
        rcases hdv with ⟨rfl, rfl⟩ | rfl
        · wp_walk using gOT
          exact fin
        · walk_at "go"
          rw [List.map_append] at fin
          exact fin
  · rintro S O2 ⟨dc2, es, fa, fs, cs, z7, z8, z9, z10, z11, z12, z13, z14, z15, z16, z17, z18, z19, z20, rfl, H2, F2, kes, kfa, hfl, hfs, hes, hfa⟩
    walk_at "ev"
    refine k pF es dc2 O2 hes ?_ H2.hd H2.ha H2.hF F2
    have : es.length = fs.length := by rw [← kes, List.length_map]
    rw [List.length_map, List.length_range] at hfl
    omega
theorem ok__law_level (T : Tx K w mg) : FnOk P w K mg base CX0 1 T.f__law_level T.d__law_level ["_law_sign"] (liftSp K sp__law_level) := by
  refine DFun.ok T.t__law_level.fn sc__law_level (by decide) (by rintro _ _ _ _ ⟨_, _, rfl, _⟩; rfl) (fun cdv A outer s H E ds O Q ED hr h => ?_)
  have nd := sc__law_level.nd
  have hu64 := hr.units
  have hu := hu_of hr
  refine ⟨_, (dss_cons (ds_set 1 (de_lstF (da_cons (de_lstF (da_cons de_str da_nil)) (da_cons (de_lstF (da_cons de_str da_nil)) (da_cons (de_lstF (da_cons de_str da_nil)) (da_cons (de_lstF (da_cons de_str (da_cons de_str (da_cons de_str (da_cons de_str da_nil))))) (da_cons (de_lstF (da_cons de_str (da_cons de_str da_nil))) (da_cons (de_lstF (da_cons de_str (da_cons de_str (da_cons de_str da_nil)))) (da_cons (de_lstF (da_cons de_str da_nil)) da_nil)))))))) nd)
      (dss_one (ds_ret (de_ix (de_lc false (own := [("_law_k", 2)]) rfl nd  (di_range1 T.n_range (da_cons de_int da_nil)) (blkOk_by (N := N__law_level) (sc := defScope s__law_level) (by decide +kernel)) (tgt_1 (i := 2) (by decide)) (fun _ _ _ _ _ => (pg_name (i := 2) nd rfl (Or.inl rfl))) (fun _ _ _ _ _ => (dts_one (dt_w (dw_or (dt_cmp (od_eq hu64) (dv 2) de_int) (dw_or1 (dt_cmp od_in (dv 0) (de_ix (dv 1) (dv 2)))))))) (fun _ _ _ _ _ => (dv 2))) de_int)))), ?_⟩
  obtain ⟨w, m, rfl, hl, k⟩ := h
  walk_at "ev"
  refine ⟨⟨by decide, by decide⟩, ?_⟩
  refine lcW_filt (levP w) (List.range 8) [] (fun k hk K hK => ?_) (fun k hk K hK => ?_) (by decide) ?_
  · have hk := List.mem_range.mp hk
    have hc : k = 0 ∨ k = 1 ∨ k = 2 ∨ k = 3 ∨ k = 4 ∨ k = 5 ∨ k = 6 ∨ k = 7 := by omega
    rcases hc with rfl | rfl | rfl | rfl | rfl | rfl | rfl | rfl <;> (walk_at "ev") <;> first | exact hK | exact ⟨rfl, hK⟩ | skip
  · walk_at "ev"
    exact hK
  · have := levP_at hl
    walk_at "ev"
    rw [List.getElem?_map, this]
    exact k
theorem ok__law_filled (T : Tx K w mg) (n : Nat) (G__law_e : FnOk P w K mg base CX0 (12) T.f__law_e T.d__law_e ["_law_d", "_law_kind", "_law_c", "_law_deep"] (liftSp K (sp__law_e 7))) (G__law_rows : FnOk P w K mg base CX0 (24) T.f__law_rows T.d__law_rows ["_law_d", "_law_c", "_law_deep", "_law_many"] (liftSp K (sp__law_rows 5))) : FnOk P w K mg base CX0 (30) T.f__law_filled T.d__law_filled ["_law_d", "_law_plan", "_law_all_told", "_law_used"] (liftSp K (sp__law_filled 0)) := by
  refine DFun.ok T.t__law_filled.fn sc__law_filled (by decide) (by rintro _ _ _ _ ⟨_, _, _, _, _, _, rfl, _⟩; rfl) (fun cdv A outer s H E ds O Q ED hr h => ?_)
  have hr__law_e : Room (12) _ := hr.mono (by omega)
  have hr__law_rows : Room (24) _ := hr.mono (by omega)
  have nd := sc__law_filled.nd
  have hu64 := hr.units
  have hu := hu_of hr
  have G__law_next := ok__law_next (P := P) (base := base) T
  have hr__law_next : Room 1 _ := hr.mono (by omega)
  refine ⟨_, (dss_cons (ds_set 4 (de_disp (dpp_cons de_str (de_lc false (own := [("_law_one", 17)]) rfl nd  (di_list (dv 2)) (blkOk_by (N := N__law_filled) (sc := defScope s__law_filled) (by decide +kernel)) (tgt_1 (i := 17) (by decide)) (fun _ _ _ _ _ => (pg_name (i := 17) nd rfl (Or.inl rfl))) (fun _ _ _ _ _ => (dts_one (dt_w (dw_and (dt_cmp (od_eq hu64) (de_ix (dv 17) de_int) de_str) (dw_and1 (dt_cmp (od_ne hu64) (de_ix (dv 17) de_int) de_str)))))) (fun _ _ _ _ _ => (de_tup (da_cons (de_ix (dv 17) de_int) (da_cons (de_ix (dv 17) de_int) (da_cons (de_ix (dv 17) de_int) da_nil)))))) (dpp_cons de_str (de_lstF da_nil) dpp_nil))) nd)
      (dss_cons (ds_asg (de_tup (da_cons (de_lstF (da_cons de_str (da_cons de_str da_nil))) (da_cons (de_lstO da_nil) da_nil))) (dg_tup (n := 2) rfl (dgs_cons (dg_sub (dv 4) de_str (psd_dict hu)) (dgs_cons (dg_name 5 nd) dgs_nil))))
      (dss_cons (ds_for PassesOwn.never rfl (di_list (dv 1)) (dg_tup (n := 6) rfl (dgs_cons (dg_name 6 nd) (dgs_cons (dg_name 7 nd) (dgs_cons (dg_name 8 nd) (dgs_cons (dg_name 9 nd) (dgs_cons (dg_name 10 nd) (dgs_cons (dg_name 11 nd) dgs_nil))))))) (dss_one (ds_if (dt_cmp (od_eq hu64) (dv 6) de_str) (dss_cons (ds_setLc false 12 (own := [("_law_one", 17)]) rfl nd (sw_true rfl rfl rfl (by decide +kernel)) (di_list (dv 2)) (blkOk_by (N := N__law_filled) (sc := defScope s__law_filled) (by decide +kernel)) (tgt_1 (i := 17) (by decide)) (fun _ _ _ _ _ => (pg_name (i := 17) nd rfl (Or.inl rfl))) (fun _ _ _ _ _ => (dts_one (dt_cmp (od_ne hu64) (de_ix (dv 17) de_int) de_str))) (fun _ _ _ _ _ => (de_tup (da_cons (de_ix (dv 17) de_int) (da_cons (de_ix (dv 17) de_int) (da_cons (de_ix (dv 17) de_int) da_nil))))))
      (dss_cons (ds_setLc false 13 (own := [("_law_part", 18)]) rfl nd (sw_true rfl rfl rfl (by decide +kernel)) (di_tup (dv 10)) (blkOk_by (N := N__law_filled) (sc := defScope s__law_filled) (by decide +kernel)) (tgt_1 (i := 18) (by decide)) (fun _ _ _ _ _ => (pg_name (i := 18) nd rfl (Or.inl rfl))) (fun _ _ _ _ _ => dts_nil) (fun _ _ _ _ _ => (de_tup (da_cons (de_ix (dv 18) de_int) (da_cons de_str (da_cons (de_ix (dv 18) de_int) da_nil))))))
      (dss_cons (ds_set 14 (de_disp (dpp_cons de_str (de_op od_add (dv 12) (dv 13)) (dpp_cons de_str (dv 11) (dpp_cons de_str de_int (dpp_cons de_str (de_callTy cd_list T.n_list bb_list (da_cons (dv 3) da_nil)) dpp_nil))))) nd)
      (dss_cons (ds_setLc false 15 (own := [("_law_one", 17)]) rfl nd (sw_true rfl rfl rfl (by decide +kernel)) (di_list (dv 2)) (blkOk_by (N := N__law_filled) (sc := defScope s__law_filled) (by decide +kernel)) (tgt_1 (i := 17) (by decide)) (fun _ _ _ _ _ => (pg_name (i := 17) nd rfl (Or.inl rfl))) (fun _ _ _ _ _ => (dts_one (dt_cmp (od_eq hu64) (de_ix (dv 17) de_int) de_str))) (fun _ _ _ _ _ => (de_slice (dv 17) (do_some de_int) do_none)))
      (dss_cons (ds_asg (de_lc false (own := [("_law_one", 17)]) rfl nd  (di_list (dv 15)) (blkOk_by (N := N__law_filled) (sc := defScope s__law_filled) (by decide +kernel)) (tgt_1 (i := 17) (by decide)) (fun _ _ _ _ _ => (pg_name (i := 17) nd rfl (Or.inl rfl))) (fun _ _ _ _ _ => dts_nil) (fun _ _ _ _ _ => (de_op od_add (de_slice (dv 17) do_none (do_some de_int)) (de_tup (da_cons (de_callTy cd_tuple T.n_tuple bb_tuple (da_cons (de_lc false (own := [("_law_part", 18)]) rfl nd  (di_tup (de_ix (dv 17) de_int)) (blkOk_by (N := N__law_filled) (sc := { kind := ScopeKind.function, names := [(".0", NameKind.local), ("_law_one", NameKind.local), ("tuple", NameKind.globalImplicit)], isGenerator := false, isCoroutine := false }) (by decide +kernel)) (tgt_1 (i := 18) (by decide)) (fun _ _ _ _ _ => (pg_name (i := 18) nd rfl (Or.inl rfl))) (fun _ _ _ _ _ => dts_nil) (fun _ _ _ _ _ => (de_ix (dv 18) de_int))) da_nil)) (da_cons (de_ix (dv 17) de_int) da_nil)))))) (dg_sub (dv 14) de_str (psd_dict hu)))
      (dss_cons (ds_asg (de_lc false (own := [("_law_one", 17)]) rfl nd  (di_list (dv 2)) (blkOk_by (N := N__law_filled) (sc := defScope s__law_filled) (by decide +kernel)) (tgt_1 (i := 17) (by decide)) (fun _ _ _ _ _ => (pg_name (i := 17) nd rfl (Or.inl rfl))) (fun _ _ _ _ _ => (dts_one (dt_w (dw_and (dt_cmp (od_eq hu64) (de_ix (dv 17) de_int) de_str) (dw_and1 (dt_cmp (od_eq hu64) (de_ix (dv 17) de_int) de_str)))))) (fun _ _ _ _ _ => (de_tup (da_cons (de_ix (dv 17) de_int) (da_cons (de_ix (dv 17) de_int) da_nil))))) (dg_sub (dv 14) de_str (psd_dict hu)))
      (dss_cons (ds_expr (de_bm PySem.F.plainAttrs_dict PySem.F.slot_dict_update PySem.F.type_dict_update (md_update hu) (dv 14) (da_cons (de_disp (dpp_cons de_str (de_op od_add (de_dix hu (dv 14) de_str) (de_lc false (own := [("_law_one", 17)]) rfl nd  (di_list (dv 13)) (blkOk_by (N := N__law_filled) (sc := defScope s__law_filled) (by decide +kernel)) (tgt_1 (i := 17) (by decide)) (fun _ _ _ _ _ => (pg_name (i := 17) nd rfl (Or.inl rfl))) (fun _ _ _ _ _ => dts_nil) (fun _ _ _ _ _ => (de_tup (da_cons (de_ix (dv 17) de_int) (da_cons (de_ix (dv 17) de_int) da_nil)))))) (dpp_cons de_str (de_lstF (da_cons de_str (da_cons de_str (da_cons de_str (da_cons de_str (da_cons de_str da_nil)))))) dpp_nil))) da_nil)))
      (dss_cons (ds_set 16 (de_call G__law_rows hr__law_rows T.t__law_rows.mg T.t__law_rows.fn.kp T.t__law_rows.bi (da_cons (dv 0) (da_cons (dv 14) (da_cons de_int (da_cons de_int da_nil))))) nd)
      (dss_cons (ds_if (dt_w (dw_and (dt_cmp (od_ne hu64) (dv 11) de_str) (dw_and1 (dt_cmp od_gt (de_call G__law_next hr__law_next T.t__law_next.mg T.t__law_next.fn.kp T.t__law_next.bi (da_cons (dv 0) (da_cons de_int da_nil))) de_int)))) (dss_one (ds_set 16 (de_op od_add (dv 16) (de_tup (da_cons (de_tup (da_cons de_str (da_cons de_non (da_cons (de_call G__law_e hr__law_e T.t__law_e.mg T.t__law_e.fn.kp T.t__law_e.bi (da_cons (dv 0) (da_cons (dv 11) (da_cons (dv 14) (da_cons de_int da_nil))))) da_nil)))) da_nil))) nd)) dss_nil)
      (dss_one (ds_expr (de_bm PySem.F.plainAttrs_list PySem.F.slot_list_append PySem.F.type_list_append md_append (dv 5) (da_cons (de_tup (da_cons (dv 6) (da_cons de_non (da_cons (dv 8) (da_cons (dv 9) (da_cons (dv 10) (da_cons (dv 11) (da_cons (dv 16) (da_cons de_non da_nil))))))))) da_nil))))))))))))) (dss_cons (ds_expr (de_bm PySem.F.plainAttrs_list PySem.F.slot_list_append PySem.F.type_list_append md_append (dv 5) (da_cons (de_tup (da_cons (dv 6) (da_cons de_non (da_cons (dv 8) (da_cons (dv 9) (da_cons (de_call G__law_e hr__law_e T.t__law_e.mg T.t__law_e.fn.kp T.t__law_e.bi (da_cons (dv 0) (da_cons (dv 11) (da_cons (dv 4) (da_cons de_int da_nil))))) da_nil)))))) da_nil)))
      (dss_one (ds_asg (de_op od_add (de_dix hu (dv 4) de_str) (de_op od_mulL (de_lstF (da_cons (de_tup (da_cons (dv 11) (da_cons de_str (da_cons (dv 9) da_nil)))) da_nil)) (de_callTy cd_int T.n_int bb_int (da_cons (de_cmp (od_eq hu64) (dv 6) de_str) da_nil)))) (dg_sub (dv 4) de_str (psd_dict hu))))))))
      (dss_one (ds_ret (de_callTy cd_tuple T.n_tuple bb_tuple (da_cons (dv 5) da_nil))))))), ?_⟩
  obtain ⟨a, u, dc, pls, ats, us, rfl, hau, hO, hD, hu, hus, hpl, hat, hpls, hats, k⟩ := h
  wp_walk using bk_names, bk_kind, bk_left, bk_used, bk_defs, bk_sets, bk_signs, bk_pnames, bk_pleft, bk_psets, bk_upd, bk_len, bk_len2, ck_disp, ck_psigns, ck_names, ck_defs, ck_signs, ck_pnames, ck_len0, ck_len, b4_disp, b4_put, b5_put, b6_sets, b6_upd, b4_len, b5_len, b6_len, b6_len2
  refine lcW_filtM encAt (fun x => encN (toN x)) (fun x => if x.w = Str.ofString "const" then !decide (x.f = Str.ofString "") else false) ats [] (fun x hx K hK => ?_) (fun x hx _ K hK => ?_) (by show 0 + _ < _; omega) ?_
  · simp only [encAt]
    walk_at "e1"
    refine ite_c (fun q => ?_) (fun q => ?_)
    · simp only [q, if_true] at hK; exact hK
    · simp only [q, if_false] at hK; exact hK
  · simp only [encAt]
    walk_at "go"
    exact hK
  have y4 : ∀ x ∈ (ats.filter (fun x => if x.w = Str.ofString "const" then !decide (x.f = Str.ofString "") else false)).map toN, OkN x := fun x hx => by
    obtain ⟨y, hy, rfl⟩ := List.mem_map.mp hx
    obtain ⟨h1, h2⟩ := List.mem_filter.mp hy
    refine okN_at (hats y h1) (fun e => ?_)
    rw [e, if_neg (by decide)] at h2
    cases h2
  have y6 : ((ats.filter (fun x => if x.w = Str.ofString "const" then !decide (x.f = Str.ofString "") else false)).map toN).length ≤ 100 := by
    rw [List.length_map]; exact Nat.le_trans (List.length_filter_le ..) hat
  have y8 : (ats.filter (fun x => if x.w = Str.ofString "const" then !decide (x.f = Str.ofString "") else false)).map (fun x => encN (toN x)) = ((ats.filter (fun x => if x.w = Str.ofString "const" then !decide (x.f = Str.ofString "") else false)).map toN).map encN := by rw [List.map_map]; rfl
  rw [List.nil_append, y8]
  generalize (ats.filter (fun x => if x.w = Str.ofString "const" then !decide (x.f = Str.ofString "") else false)).map toN = ns at y4 y6
  clear y8
  wp_walk using bk_names, bk_kind, bk_left, bk_used, bk_defs, bk_sets, bk_signs, bk_pnames, bk_pleft, bk_psets, bk_upd, bk_len, bk_len2, ck_disp, ck_psigns, ck_names, ck_defs, ck_signs, ck_pnames, ck_len0, ck_len, b4_disp, b4_put, b5_put, b6_sets, b6_upd, b4_len, b5_len, b6_len, b6_len2
  intro pc hpc
  wp_walk using bk_names, bk_kind, bk_left, bk_used, bk_defs, bk_sets, bk_signs, bk_pnames, bk_pleft, bk_psets, bk_upd, bk_len, bk_len2, ck_disp, ck_psigns, ck_names, ck_defs, ck_signs, ck_pnames, ck_len0, ck_len, b4_disp, b4_put, b5_put, b6_sets, b6_upd, b4_len, b5_len, b6_len, b6_len2
  intro pf hpf
  have hcf : pc ≠ pf := ne_of oset_same hpf
  have hac : a ≠ pc := ne_of hO hpc
  have huc : u ≠ pc := ne_of hu hpc
  have hOf : O pf = none := by rw [oset_ne (Ne.symm hcf)] at hpf; exact hpf
  have haf : a ≠ pf := ne_of hO hOf
  have huf : u ≠ pf := ne_of hu hOf
  have e1 : ∀ X Y, oset (oset O pc X) pf Y pc = some X := fun X Y => by rw [oset_ne hcf, oset_same]
  wp_walk using bk_names, bk_kind, bk_left, bk_used, bk_defs, bk_sets, bk_signs, bk_pnames, bk_pleft, bk_psets, bk_upd, bk_len, bk_len2, ck_disp, ck_psigns, ck_names, ck_defs, ck_signs, ck_pnames, ck_len0, ck_len, b4_disp, b4_put, b5_put, b6_sets, b6_upd, b4_len, b5_len, b6_len, b6_len2, e1
  refine forW_inv (fun i S O' => ∃ (ts : List Td) (dc' : Cell) (ns' : List Nm) (z6 z7 z8 z9 z10 z11 z12 z13 z14 z15 z16 z17 z18 : Option DV), S = [some (.ref a), some (.lst (pls.map encPl)), some (.lst (ats.map encAt)), some (.ref u), some (.ref pc), some (.ref pf), z6, z7, z8, z9, z10, z11, z12, z13, z14, z15, z16, z17, z18] ∧ O' a = some dc' ∧ Dice dc' ∧ O' u = some (.lst (us.map DV.str)) ∧ O' pc = some (.dK (CKv (.lst (ns'.map encN)) (.lst []) (.lst [.str (Str.ofString "+"), .str (Str.ofString "-")]))) ∧ O' pf = some (.lst (ts.map encT)) ∧ Fr O O' [a] ∧ (∀ t ∈ ts, WFT t) ∧ ts.length = i ∧ (∀ x ∈ ns', OkN x) ∧ ns'.length ≤ 100 + i)
    ⟨[], dc, ns, none, none, none, none, none, none, none, none, none, none, none, none, none, rfl, by rw [oset_ne hac, oset_ne haf, oset_ne hac]; exact hO, hD, by rw [oset_ne huc, oset_ne huf, oset_ne huc]; exact hu, oset_same, by rw [oset_ne (Ne.symm hcf), oset_same]; rfl, ((Fr.refl.set (.inr hpc)).set (.inr hOf)).set (.inr hpc), by simp, rfl, y4, by omega⟩ ?_ ?_
  · rintro i S O' d nx he ⟨ts, dc', ns', z6, z7, z8, z9, z10, z11, z12, z13, z14, z15, z16, z17, z18, rfl, hO', hD', hu', hpc', hpf', hF, hts, htl, hns, hnl⟩ hnx
    rw [List.getElem?_map] at he
    cases e0 : pls[i]? with
    | none => rw [e0] at he; cases he
    | some p =>
      rw [e0] at he; cases he
      have hpm := hpls p (List.mem_of_getElem? e0)
      have hi : i < pls.length := (List.getElem?_eq_some_iff.mp e0).1
      obtain ⟨w, out, m, ps, kd⟩ := p
      obtain ⟨hm, hps, hkw⟩ := hpm
      dsimp only at hm hps hkw
      have hml := isName_len hm
      simp only [encPl]
      have hcu : pc ≠ u := Ne.symm huc
      rcases hkw with ⟨hw, hk⟩ | ⟨rfl, hk⟩
      · have hca : ∀ (O : Own) (x : Cell), oset O a x pc = O pc := fun O x => oset_ne (Ne.symm hac)
        have hfa : ∀ (O : Own) (x : Cell), oset O a x pf = O pf := fun O x => oset_ne (Ne.symm haf)
        have hcf2 : ∀ (O : Own) (x : Cell), oset O pf x pc = O pc := fun O x => oset_ne hcf
        rcases hw with rfl | rfl
        · wp_walk using bk_names, bk_kind, bk_left, bk_used, bk_defs, bk_sets, bk_signs, bk_pnames, bk_pleft, bk_psets, bk_upd, bk_len, bk_len2, ck_disp, ck_psigns, ck_names, ck_defs, ck_signs, ck_pnames, ck_len0, ck_len, b4_disp, b4_put, b5_put, b6_sets, b6_upd, b4_len, b5_len, b6_len, b6_len2, hpc', hpf'
          refine ⟨a, pc, kd, dc', _, ns', [], [Str.ofString "+", Str.ofString "-"], 2, rfl, hac, hO', hD', hpc', ⟨rfl, rfl, rfl, hns, by simp, by omega, by simp, sgs2⟩, hk, by omega, fun e dc2 he1 he2 hD2 => ?_⟩
          wp_walk using bk_names, bk_kind, bk_left, bk_used, bk_defs, bk_sets, bk_signs, bk_pnames, bk_pleft, bk_psets, bk_upd, bk_len, bk_len2, ck_disp, ck_psigns, ck_names, ck_defs, ck_signs, ck_pnames, ck_len0, ck_len, b4_disp, b4_put, b5_put, b6_sets, b6_upd, b4_len, b5_len, b6_len, b6_len2, hca, hfa, hcf2, hpc', hpf', rep1, rep0, List.append_nil
          refine hnx _ _ ⟨ts ++ [.val _ out m e], dc2, ns' ++ [(kd, Str.ofString "", m)], _, _, _, _, _, _, _, _, _, _, _, _, _, rfl, by rw [oset_ne hac, oset_ne haf, oset_same], hD2, by rw [oset_ne huc, oset_ne huf, oset_ne (Ne.symm hau)]; exact hu', by simp [oset_same, encN], by rw [oset_ne (Ne.symm hcf), oset_same, List.map_append]; rfl, ((hF.set (.inl (by simp))).set (.inr hOf)).set (.inr hpc), ?_, by simp [htl], ?_, ?_⟩
          · intro t ht
            rcases List.mem_append.mp ht with ht | ht
            · exact hts t ht
            · simp only [List.mem_singleton] at ht
              subst ht
              simp only [WFT]
              exact ⟨by decide, by omega, wf_six he1⟩
          · intro x hx
            first
              | exact hns x hx
              | (rcases List.mem_append.mp hx with hx | hx
                 · exact hns x hx
                 · simp only [List.mem_singleton] at hx
                   subst hx
                   exact ⟨hk, .inl rfl, hm⟩)
          · first
              | omega
              | (simp only [List.length_append, List.length_singleton]; omega)
        · wp_walk using bk_names, bk_kind, bk_left, bk_used, bk_defs, bk_sets, bk_signs, bk_pnames, bk_pleft, bk_psets, bk_upd, bk_len, bk_len2, ck_disp, ck_psigns, ck_names, ck_defs, ck_signs, ck_pnames, ck_len0, ck_len, b4_disp, b4_put, b5_put, b6_sets, b6_upd, b4_len, b5_len, b6_len, b6_len2, hpc', hpf'
          refine ⟨a, pc, kd, dc', _, ns', [], [Str.ofString "+", Str.ofString "-"], 2, rfl, hac, hO', hD', hpc', ⟨rfl, rfl, rfl, hns, by simp, by omega, by simp, sgs2⟩, hk, by omega, fun e dc2 he1 he2 hD2 => ?_⟩
          wp_walk using bk_names, bk_kind, bk_left, bk_used, bk_defs, bk_sets, bk_signs, bk_pnames, bk_pleft, bk_psets, bk_upd, bk_len, bk_len2, ck_disp, ck_psigns, ck_names, ck_defs, ck_signs, ck_pnames, ck_len0, ck_len, b4_disp, b4_put, b5_put, b6_sets, b6_upd, b4_len, b5_len, b6_len, b6_len2, hca, hfa, hcf2, hpc', hpf', rep1, rep0, List.append_nil
          refine hnx _ _ ⟨ts ++ [.val _ out m e], dc2, ns', _, _, _, _, _, _, _, _, _, _, _, _, _, rfl, by rw [oset_ne hac, oset_ne haf, oset_same], hD2, by rw [oset_ne huc, oset_ne huf, oset_ne (Ne.symm hau)]; exact hu', by simp [oset_same, encN], by rw [oset_ne (Ne.symm hcf), oset_same, List.map_append]; rfl, ((hF.set (.inl (by simp))).set (.inr hOf)).set (.inr hpc), ?_, by simp [htl], ?_, ?_⟩
          · intro t ht
            rcases List.mem_append.mp ht with ht | ht
            · exact hts t ht
            · simp only [List.mem_singleton] at ht
              subst ht
              simp only [WFT]
              exact ⟨by decide, by omega, wf_six he1⟩
          · intro x hx
            first
              | exact hns x hx
              | (rcases List.mem_append.mp hx with hx | hx
                 · exact hns x hx
                 · simp only [List.mem_singleton] at hx
                   subst hx
                   exact ⟨hk, .inl rfl, hm⟩)
          · first
              | omega
              | (simp only [List.length_append, List.length_singleton]; omega)
      · wp_walk using bk_names, bk_kind, bk_left, bk_used, bk_defs, bk_sets, bk_signs, bk_pnames, bk_pleft, bk_psets, bk_upd, bk_len, bk_len2, ck_disp, ck_psigns, ck_names, ck_defs, ck_signs, ck_pnames, ck_len0, ck_len, b4_disp, b4_put, b5_put, b6_sets, b6_upd, b4_len, b5_len, b6_len, b6_len2, hpc', hpf'
        refine lcW_filtM encAt (fun x => encN (toN x)) (fun x => !decide (x.w = Str.ofString "def")) ats [] (fun x hx K hK => ?_) (fun x hx _ K hK => ?_) (by show 0 + _ < _; omega) ?_
        · simp only [encAt]
          walk_at "e1"
          exact hK
        · simp only [encAt]
          walk_at "go"
          exact hK
        have w4 : ∀ x ∈ (ats.filter (fun x => !decide (x.w = Str.ofString "def"))).map toN, OkN x := fun x hx => by
          obtain ⟨y, hy, rfl⟩ := List.mem_map.mp hx
          obtain ⟨h1, h2⟩ := List.mem_filter.mp hy
          exact okN_at (hats y h1) (by simpa using h2)
        have w6 : ((ats.filter (fun x => !decide (x.w = Str.ofString "def"))).map toN).length ≤ 100 := by
          rw [List.length_map]; exact Nat.le_trans (List.length_filter_le ..) hat
        have w8 : (ats.filter (fun x => !decide (x.w = Str.ofString "def"))).map (fun x => encN (toN x)) = ((ats.filter (fun x => !decide (x.w = Str.ofString "def"))).map toN).map encN := by rw [List.map_map]; rfl
        rw [List.nil_append, w8]
        generalize (ats.filter (fun x => !decide (x.w = Str.ofString "def"))).map toN = ns1 at w4 w6
        clear w8
        have hp3 := hps.1
        wp_walk using bk_names, bk_kind, bk_left, bk_used, bk_defs, bk_sets, bk_signs, bk_pnames, bk_pleft, bk_psets, bk_upd, bk_len, bk_len2, ck_disp, ck_psigns, ck_names, ck_defs, ck_signs, ck_pnames, ck_len0, ck_len, b4_disp, b4_put, b5_put, b6_sets, b6_upd, b4_len, b5_len, b6_len, b6_len2, hpc', hpf'
        refine lcW_map encP (fun q => encN (pN q)) ps [] (fun q hq K hK => ?_) (by show 0 + _ < _; omega) ?_
        · simp only [encP]
          walk_at "go"
          exact hK
        have w9 : ps.map (fun q => encN (pN q)) = (ps.map pN).map encN := by rw [List.map_map]; rfl
        rw [List.nil_append, w9]
        wp_walk using bk_names, bk_kind, bk_left, bk_used, bk_defs, bk_sets, bk_signs, bk_pnames, bk_pleft, bk_psets, bk_upd, bk_len, bk_len2, ck_disp, ck_psigns, ck_names, ck_defs, ck_signs, ck_pnames, ck_len0, ck_len, b4_disp, b4_put, b5_put, b6_sets, b6_upd, b4_len, b5_len, b6_len, b6_len2, hpc', hpf', hu'
        intro pu hpu
        wp_walk using bk_names, bk_kind, bk_left, bk_used, bk_defs, bk_sets, bk_signs, bk_pnames, bk_pleft, bk_psets, bk_upd, bk_len, bk_len2, ck_disp, ck_psigns, ck_names, ck_defs, ck_signs, ck_pnames, ck_len0, ck_len, b4_disp, b4_put, b5_put, b6_sets, b6_upd, b4_len, b5_len, b6_len, b6_len2, hpc', hpf', hu'
        intro pb hpb
        wp_walk using bk_names, bk_kind, bk_left, bk_used, bk_defs, bk_sets, bk_signs, bk_pnames, bk_pleft, bk_psets, bk_upd, bk_len, bk_len2, ck_disp, ck_psigns, ck_names, ck_defs, ck_signs, ck_pnames, ck_len0, ck_len, b4_disp, b4_put, b5_put, b6_sets, b6_upd, b4_len, b5_len, b6_len, b6_len2, hpc', hpf', hu'
        refine lcW_filtM encAt encD0 (fun x => decide (x.w = Str.ofString "def")) ats [] (fun x hx K hK => ?_) (fun x hx _ K hK => ?_) (by show 0 + _ < _; omega) ?_
        · simp only [encAt]
          walk_at "e1"
          exact hK
        · simp only [encAt]
          walk_at "go"
          exact hK
        have v4 : ∀ x ∈ ats.filter (fun x => decide (x.w = Str.ofString "def")), OkAt x := fun x hx => hats x (List.mem_filter.mp hx).1
        have v6 : (ats.filter (fun x => decide (x.w = Str.ofString "def"))).length ≤ 100 := Nat.le_trans (List.length_filter_le ..) hat
        rw [List.nil_append]
        generalize ats.filter (fun x => decide (x.w = Str.ofString "def")) = at1 at v4 v6
        wp_walk using bk_names, bk_kind, bk_left, bk_used, bk_defs, bk_sets, bk_signs, bk_pnames, bk_pleft, bk_psets, bk_upd, bk_len, bk_len2, ck_disp, ck_psigns, ck_names, ck_defs, ck_signs, ck_pnames, ck_len0, ck_len, b4_disp, b4_put, b5_put, b6_sets, b6_upd, b4_len, b5_len, b6_len, b6_len2, hpc', hpf', hu'
        refine lcW_map encD0 (fun x => encDf (toDf x)) at1 [] (fun x hx K hK => ?_) (by show 0 + _ < _; omega) ?_
        · simp only [encD0]
          wp_walk using cutD_two
          refine lcW_map encP (fun q => .str q.2) x.ps [] (fun q hq K hK => ?_) (by have := (v4 x hx).2.2.1.1; show 0 + _ < _; omega) ?_
          · simp only [encP]
            walk_at "go"
            exact hK
          wp_walk using cutD_two
          have e : encDf (toDf x) = .tup [.str x.f, .str x.n, .tup (x.ps.map fun q => .str q.2), .str x.kd] := by simp only [encDf, toDf, List.map_map]; rfl
          rw [e] at hK
          exact hK
        have v9 : at1.map (fun x => encDf (toDf x)) = (at1.map toDf).map encDf := by rw [List.map_map]; rfl
        rw [List.nil_append, v9]
        wp_walk using bk_names, bk_kind, bk_left, bk_used, bk_defs, bk_sets, bk_signs, bk_pnames, bk_pleft, bk_psets, bk_upd, bk_len, bk_len2, ck_disp, ck_psigns, ck_names, ck_defs, ck_signs, ck_pnames, ck_len0, ck_len, b4_disp, b4_put, b5_put, b6_sets, b6_upd, b4_len, b5_len, b6_len, b6_len2, hpc', hpf', hu', oset_same
        have hpa : pu ≠ a := Ne.symm (ne_of hO' hpu)
        have hpb1 : O' pb = none := by rw [oset_ne (Ne.symm (ne_of oset_same hpb))] at hpb; exact hpb
        have hpba : pb ≠ a := Ne.symm (ne_of hO' hpb1)
        have hpbu : pb ≠ pu := Ne.symm (ne_of oset_same hpb)
        have hF2 : ∀ X Y, Fr O (oset (oset O' pu X) pb Y) [a] := fun X Y => (hF.set (.inr (hF.none hpu (by simp [hpa])))).set (.inr (hF.none hpb1 (by simp [hpba])))
        have gk : ∀ {x : Addr} {c : Cell} (Y : Cell), O' x = some c → oset (oset O' pu (.lst (us.map DV.str))) pb Y x = some c := fun Y h => keep_at hpb (keep_at hpu h)
        have g1 := gk (Cell.dK (B5v (DV.lst (List.map encN ns1 ++ List.map encN (List.map pN ps))) (DV.str kd) (DV.int 4) (DV.ref pu) (DV.lst (List.map encDf (List.map toDf at1))))) hO'
        have g2 := gk (Cell.dK (B5v (DV.lst (List.map encN ns1 ++ List.map encN (List.map pN ps))) (DV.str kd) (DV.int 4) (DV.ref pu) (DV.lst (List.map encDf (List.map toDf at1))))) hu'
        have g3 := gk (Cell.dK (B5v (DV.lst (List.map encN ns1 ++ List.map encN (List.map pN ps))) (DV.str kd) (DV.int 4) (DV.ref pu) (DV.lst (List.map encDf (List.map toDf at1))))) hpc'
        have g4 := gk (Cell.dK (B5v (DV.lst (List.map encN ns1 ++ List.map encN (List.map pN ps))) (DV.str kd) (DV.int 4) (DV.ref pu) (DV.lst (List.map encDf (List.map toDf at1))))) hpf'
        have g5 : oset (oset O' pu (.lst (us.map DV.str))) pb (Cell.dK (B5v (DV.lst (List.map encN ns1 ++ List.map encN (List.map pN ps))) (DV.str kd) (DV.int 4) (DV.ref pu) (DV.lst (List.map encDf (List.map toDf at1))))) pu = some (.lst (us.map DV.str)) := keep_at hpb oset_same
        have g6 : oset (oset O' pu (.lst (us.map DV.str))) pb (Cell.dK (B5v (DV.lst (List.map encN ns1 ++ List.map encN (List.map pN ps))) (DV.str kd) (DV.int 4) (DV.ref pu) (DV.lst (List.map encDf (List.map toDf at1))))) pb = _ := oset_same
        have g7 := hF2 (.lst (us.map DV.str)) (Cell.dK (B5v (DV.lst (List.map encN ns1 ++ List.map encN (List.map pN ps))) (DV.str kd) (DV.int 4) (DV.ref pu) (DV.lst (List.map encDf (List.map toDf at1)))))
        have hu0 : O pu = none := hF.none hpu (by simp [hpa])
        have hb0 : O pb = none := hF.none hpb1 (by simp [hpba])
        clear gk hF2
        generalize oset (oset O' pu (.lst (us.map DV.str))) pb (Cell.dK (B5v (DV.lst (List.map encN ns1 ++ List.map encN (List.map pN ps))) (DV.str kd) (DV.int 4) (DV.ref pu) (DV.lst (List.map encDf (List.map toDf at1))))) = O2 at g1 g2 g3 g4 g5 g6 g7
        refine lcW_filtM encAt (fun x => encS (toS x)) (fun x => if x.w = Str.ofString "keep" then decide (x.f = Str.ofString "") else false) ats [] (fun x hx K hK => ?_) (fun x hx _ K hK => ?_) (by show 0 + _ < _; omega) ?_
        · simp only [encAt]
          walk_at "e1"
          refine ite_c (fun q => ?_) (fun q => ?_)
          · simp only [q, if_true] at hK; exact hK
          · simp only [q, if_false] at hK; exact hK
        · simp only [encAt]
          walk_at "go"
          exact hK
        have u4 : ∀ x ∈ (ats.filter (fun x => if x.w = Str.ofString "keep" then decide (x.f = Str.ofString "") else false)).map toS, KN x.1 ∧ IsName x.2 := fun x hx => by
          obtain ⟨y, hy, rfl⟩ := List.mem_map.mp hx
          obtain ⟨h1, h2⟩ := List.mem_filter.mp hy
          refine ⟨(hats y h1).2.2.2.kn (fun e => ?_), (hats y h1).2.1⟩
          rw [e, if_neg (by decide)] at h2
          cases h2
        have u6 : ((ats.filter (fun x => if x.w = Str.ofString "keep" then decide (x.f = Str.ofString "") else false)).map toS).length ≤ 100 := by
          rw [List.length_map]; exact Nat.le_trans (List.length_filter_le ..) hat
        have u8 : (ats.filter (fun x => if x.w = Str.ofString "keep" then decide (x.f = Str.ofString "") else false)).map (fun x => encS (toS x)) = ((ats.filter (fun x => if x.w = Str.ofString "keep" then decide (x.f = Str.ofString "") else false)).map toS).map encS := by rw [List.map_map]; rfl
        rw [List.nil_append, u8]
        generalize (ats.filter (fun x => if x.w = Str.ofString "keep" then decide (x.f = Str.ofString "") else false)).map toS = ss1 at u4 u6
        clear u8
        wp_walk using bk_names, bk_kind, bk_left, bk_used, bk_defs, bk_sets, bk_signs, bk_pnames, bk_pleft, bk_psets, bk_upd, bk_len, bk_len2, ck_disp, ck_psigns, ck_names, ck_defs, ck_signs, ck_pnames, ck_len0, ck_len, b4_disp, b4_put, b5_put, b6_sets, b6_upd, b4_len, b5_len, b6_len, b6_len2, g6, oset_same
        refine lcW_map encN (fun x => encS (x.1, x.2.2)) (ps.map pN) [] (fun q hq K hK => ?_) (by rw [List.length_map]; show 0 + _ < _; omega) ?_
        · simp only [encN]
          walk_at "go"
          exact hK
        have t9 : (ps.map pN).map (fun x => encS (x.1, x.2.2)) = (ps.map pS).map encS := by rw [List.map_map, List.map_map]; rfl
        rw [List.nil_append, t9]
        wp_walk using bk_names, bk_kind, bk_left, bk_used, bk_defs, bk_sets, bk_signs, bk_pnames, bk_pleft, bk_psets, bk_upd, bk_len, bk_len2, ck_disp, ck_psigns, ck_names, ck_defs, ck_signs, ck_pnames, ck_len0, ck_len, b4_disp, b4_put, b5_put, b6_sets, b6_upd, b4_len, b5_len, b6_len, b6_len2, g6, oset_same
        intro q hq
        have hbq : pb ≠ q := ne_of oset_same hq
        have hq2 : O2 q = none := by rw [oset_ne (Ne.symm hbq)] at hq; exact hq
        have hqb : ∀ (X Y Z : Cell), oset (oset (oset O2 pb X) q Y) pb Z pb = some Z := fun X Y Z => oset_same
        have hqc : ∀ (X Y : Cell), oset (oset O2 pb X) q Y pb = some X := fun X Y => by rw [oset_ne hbq, oset_same]
        wp_walk using bk_names, bk_kind, bk_left, bk_used, bk_defs, bk_sets, bk_signs, bk_pnames, bk_pleft, bk_psets, bk_upd, bk_len, bk_len2, ck_disp, ck_psigns, ck_names, ck_defs, ck_signs, ck_pnames, ck_len0, ck_len, b4_disp, b4_put, b5_put, b6_sets, b6_upd, b4_len, b5_len, b6_len, b6_len2, hqc, oset_same
        have hpcb : pc ≠ pb := ne_of hpc' hpb1
        have hpfb : pf ≠ pb := ne_of hpf' hpb1
        have hub : u ≠ pb := ne_of hu' hpb1
        have hpcu : pc ≠ pu := ne_of hpc' hpu
        have hpfu : pf ≠ pu := ne_of hpf' hpu
        have huu : u ≠ pu := ne_of hu' hpu
        have hqa : q ≠ a := Ne.symm (ne_of g1 hq2)
        have hq0 : O q = none := g7.none hq2 (by simp [hqa])
        refine callsp_gen (fun O3 => BSt O3 a pb pu dc' (ns1 ++ ps.map pN) kd 4 (at1.map toDf) (ss1 ++ ps.map pS) [Str.ofString "+", Str.ofString "-", Str.ofString "*", Str.ofString "/", Str.ofString "mod"] us ∧ O3 u = some (.lst (us.map DV.str)) ∧ O3 pc = some (.dK (CKv (.lst (ns'.map encN)) (.lst []) (.lst [.str (Str.ofString "+"), .str (Str.ofString "-")]))) ∧ O3 pf = some (.lst (ts.map encT)) ∧ Fr O O3 [a]) ?_ fun O3 hO3 => ?_
        · refine ⟨⟨Ne.symm hpba, Ne.symm hpa, hpbu, put3 hq (Ne.symm hpba) g1, hD', by rw [oset_same]; simp only [List.map_append, List.map_cons, List.map_nil], put3 hq (Ne.symm hpbu) g5, ⟨?_, ?_, ?_, ?_, ?_, ?_, sgs5, hk⟩⟩, put3 hq hub g2, put3 hq hpcb g3, put3 hq hpfb g4, ((g7.set (.inr hb0)).set (.inr hq0)).set (.inr hb0)⟩
          · intro x hx
            rcases List.mem_append.mp hx with hx | hx
            · exact w4 x hx
            · obtain ⟨y, hy, rfl⟩ := List.mem_map.mp hx
              exact okN_p (hps.2 y hy)
          · intro x hx
            obtain ⟨y, hy, rfl⟩ := List.mem_map.mp hx
            exact okD_at (v4 y hy)
          · intro x hx
            rcases List.mem_append.mp hx with hx | hx
            · exact u4 x hx
            · obtain ⟨y, hy, rfl⟩ := List.mem_map.mp hx
              exact ⟨(hps.2 y hy).2, (hps.2 y hy).1⟩
          · rw [List.length_append, List.length_map]; omega
          · rw [List.length_append, List.length_map]; omega
          · rw [List.length_map]; omega
        obtain ⟨B3, i1, i2, i3, i4⟩ := hO3
        refine ⟨a, pb, pu, dc', _, kd, 4, _, _, _, us, 3, 5, rfl, B3, by omega, by omega, by omega, by rw [tn4]; omega, by rw [tn4]; omega, by omega, fun rs dc2 l2 us2 O4 r1 r2 r3 r4 r5 r6 r7 r8 B4 F4 => ?_⟩
        rw [tn4] at r8
        have r4 : rs.length ≤ 4 := r4
        have hF4 := W1.Fr.trans2 (bs := [pb, pu]) i4 F4 (by intro b hb; simp only [List.mem_cons, List.not_mem_nil, or_false] at hb; rcases hb with rfl | rfl <;> assumption)
        have n1 := F4.at i1 (by simp [Ne.symm hau, hub, huu])
        have n2 := F4.at i2 (by simp [Ne.symm hac, hpcb, hpcu])
        have n3 := F4.at i3 (by simp [Ne.symm haf, hpfb, hpfu])
        clear B3 i1 i2 i3 i4 F4
        try (walk_at "e1")
        refine dSeq_mid (fun S' O5 => ∃ (rs2 : List Rw) (dc3 : Cell), WFRs 4 rs2 ∧ PRs rs2 ∧ rs2.length ≤ 5 ∧ cRs rs2 ≤ 41 ∧ Dice dc3 ∧ O5 a = some dc3 ∧ O5 u = some (.lst (us.map DV.str)) ∧ O5 pc = some (.dK (CKv (.lst (ns'.map encN)) (.lst []) (.lst [.str (Str.ofString "+"), .str (Str.ofString "-")]))) ∧ O5 pf = some (.lst (ts.map encT)) ∧ Fr O O5 [a] ∧ S' = [some (DV.ref a), some (DV.lst (List.map encPl pls)), some (DV.lst (List.map encAt ats)), some (DV.ref u),
          some (DV.ref pc), some (DV.ref pf), some (DV.str (Str.ofString "def")), some DV.non, some (DV.bl out),
          some (DV.str m), some (DV.tup (List.map encP ps)), some (DV.str kd), some (DV.lst (List.map encN ns1)),
          some (DV.lst (List.map encN (List.map pN ps))), some (DV.ref pb), some (DV.lst (List.map encD0 at1)), some (.tup (encRs rs2)), z17, z18]) (fun R hR => ?_) ?_
        · have plain : ∀ dc3, Dice dc3 → ∀ O5, O5 a = some dc3 → O5 u = some (.lst (us.map DV.str)) → O5 pc = some (.dK (CKv (.lst (ns'.map encN)) (.lst []) (.lst [.str (Str.ofString "+"), .str (Str.ofString "-")]))) → O5 pf = some (.lst (ts.map encT)) → Fr O O5 [a] → R _ O5 := fun dc3 d1 O5 d2 d3 d4 d5 d6 => hR _ _ ⟨rs, dc3, r1, r2, by omega, by omega, d1, d2, d3, d4, d5, d6, rfl⟩
          walk_at "e1"
          refine ite_c (fun q1 => ?_) (fun q1 => plain dc2 B4.hd O4 B4.ha n1 n2 n3 hF4)
          have hkd : KN kd := by
            rcases hk with h | h
            · exact h
            · exact absurd h q1
          refine ⟨a, 5, dc2, rfl, B4.ha, B4.hd, by omega, by omega, fun r9 dc3 h3 h4 hD3 => ?_⟩
          have B5 := B4.dice hD3
          have hF5 := hF4.set (a := a) (c := dc3) (.inl (by simp))
          have m1 : oset O4 a dc3 u = _ := (oset_ne (Ne.symm hau)).trans n1
          have m2 : oset O4 a dc3 pc = _ := (oset_ne (Ne.symm hac)).trans n2
          have m3 : oset O4 a dc3 pf = _ := (oset_ne (Ne.symm haf)).trans n3
          generalize oset O4 a dc3 = O5 at B5 hF5 m1 m2 m3
          walk_at "e1"
          refine ite_c (fun q2 => ?_) (fun q2 => plain dc3 hD3 O5 B5.ha m1 m2 m3 hF5)
          refine ⟨a, pb, kd, dc3, _, _, _, _, 2, rfl, B5.ac, B5.ha, B5.hd, B5.hc, B5.e (by omega), hkd, by omega, fun e dc4 he1 he2 hD4 => ?_⟩
          have hel : (encRs rs).length ≤ 4 := by rw [encRs_length]; exact r4
          walk_at "go"
          refine hR _ _ ⟨rs ++ [.one (Str.ofString "give") (some e)], dc4, wfrs_app r1 ⟨by simp only [WFR]; exact ⟨by decide, wf_six he1⟩, by simp [WFRs]⟩, prs_app r2 ⟨by simp only [PR]; exact he2, by simp [PRs]⟩, by simp; omega, by rw [cRs_app]; simp [cRs, cR]; omega, hD4, oset_same, by rw [oset_ne (Ne.symm hau)]; exact m1, by rw [oset_ne (Ne.symm hac)]; exact m2, by rw [oset_ne (Ne.symm haf)]; exact m3, hF5.set (.inl (by simp)), ?_⟩
          simp [encRs_map, encR, encO]
        rintro S' O5 ⟨rs2, dc3, s1, s2, s3, s4, s5, s6, s7, s8, s9, s10, rfl⟩
        wp_walk using s9
        refine hnx _ _ ⟨ts ++ [.dfn out m ps kd rs2], dc3, ns', _, _, _, _, _, _, _, _, _, _, _, _, _, rfl, by rw [oset_ne haf]; exact s6, s5, by rw [oset_ne huf]; exact s7, by rw [oset_ne hcf]; exact s8, by rw [oset_same, List.map_append]; rfl, s10.set (.inr hOf), ?_, by simp [htl], hns, by omega⟩
        intro t ht
        rcases List.mem_append.mp ht with ht | ht
        · exact hts t ht
        · simp only [List.mem_singleton] at ht
          subst ht
          simp only [WFT]
          refine ⟨by omega, hps.1, hps.le, ?_, s1, s2, s3, s4⟩
          rcases hk with hk | hk
          · rcases hk with rfl | rfl <;> decide
          · subst hk; decide
  · rintro S O' ⟨ts, dc', ns', z6, z7, z8, z9, z10, z11, z12, z13, z14, z15, z16, z17, z18, rfl, hO', hD', hu', hpc', hpf', hF, hts, htl, hns, hnl⟩
    rw [List.length_map] at htl
    wp_walk using hpf'
    exact k ts dc' O' hts (by omega) hD' hO' hF
theorem ok__law_flat (T : Tx K w mg) (n : Nat) (G__law_flat : FnOk P w K mg base CX0 (n + 2) T.f__law_flat T.d__law_flat ["_law_e_here", "_law_level_here"] (liftSp K (sp__law_flat n))) : FnOk P w K mg base CX0 (n + 3) T.f__law_flat T.d__law_flat ["_law_e_here", "_law_level_here"] (liftSp K (sp__law_flat (n + 1))) := by
  refine DFun.ok T.t__law_flat.fn sc__law_flat (by decide) (by rintro _ _ _ _ ⟨_, _, rfl, _⟩; rfl) (fun cdv A outer s H E ds O Q ED hr h => ?_)
  have hr__law_flat : Room (n + 2) _ := hr.mono (by omega)
  have nd := sc__law_flat.nd
  have hu64 := hr.units
  have hu := hu_of hr
  have G__law_level := ok__law_level (P := P) (base := base) T
  have hr__law_level : Room 1 _ := hr.mono (by omega)
  refine ⟨_, (dss_cons (ds_set 2 (de_call G__law_level hr__law_level T.t__law_level.mg T.t__law_level.fn.kp T.t__law_level.bi (da_cons (de_ix (dv 0) de_int) da_nil)) nd)
      (dss_cons (ds_if (dt_cmp (od_eq hu64) (de_ix (dv 0) de_int) de_str) (dss_one (ds_ret (de_callTy cd_str T.n_str bb_str (da_cons (de_ix (dv 0) de_int) da_nil)))) dss_nil)
      (dss_cons (ds_if (dt_cmp (od_eq hu64) (de_ix (dv 0) de_int) de_str) (dss_one (ds_ret (de_ix (de_lstF (da_cons de_str (da_cons de_str da_nil))) (de_callTy cd_int T.n_int bb_int (da_cons (de_ix (dv 0) de_int) da_nil))))) dss_nil)
      (dss_cons (ds_if (dt_cmp od_in (de_ix (dv 0) de_int) (de_tup (da_cons de_str (da_cons de_str da_nil)))) (dss_cons (ds_set 3 (de_if (dt_cmp (od_eq hu64) (de_ix (dv 0) de_int) de_str) (de_ix (dv 0) de_int) (de_op od_add (de_op od_add (de_ix (dv 0) de_int) de_str) (de_ix (dv 0) de_int))) nd)
      (dss_cons (ds_if (dt_cmp (od_eq hu64) (de_ix (dv 0) de_int) de_str) (dss_one (ds_ret (dv 3))) dss_nil)
      (dss_one (ds_ret (de_op od_add (de_op od_add (de_op od_add (dv 3) de_str) (de_bm PySem.F.plainAttrs_str PySem.F.slot_str_join PySem.F.type_str_join md_join de_str (da_cons (de_lc false (own := [("_law_one", 4)]) rfl nd  (di_tup (de_ix (dv 0) de_int)) (blkOk_by (N := N__law_flat) (sc := defScope s__law_flat) (by decide +kernel)) (tgt_1 (i := 4) (by decide)) (fun _ _ _ _ _ => (pg_name (i := 4) nd rfl (Or.inl rfl))) (fun _ _ _ _ _ => dts_nil) (fun _ _ _ _ _ => (de_call G__law_flat hr__law_flat T.t__law_flat.mg T.t__law_flat.fn.kp T.t__law_flat.bi (da_cons (dv 4) (da_cons de_int da_nil))))) da_nil))) de_str))))) dss_nil)
      (dss_cons (ds_if (dt_cmp od_in (de_ix (dv 0) de_int) (de_tup (da_cons de_str (da_cons de_str da_nil)))) (dss_one (ds_set 3 (de_op od_add (de_dix hu (de_dispF (dpp_cons de_str de_str (dpp_cons de_str de_str dpp_nil))) (de_ix (dv 0) de_int)) (de_call G__law_flat hr__law_flat T.t__law_flat.mg T.t__law_flat.fn.kp T.t__law_flat.bi (da_cons (de_ix (dv 0) de_int) (da_cons (dv 2) da_nil)))) nd)) (dss_one (ds_set 3 (de_op od_add (de_op od_add (de_op od_add (de_op od_add (de_call G__law_flat hr__law_flat T.t__law_flat.mg T.t__law_flat.fn.kp T.t__law_flat.bi (da_cons (de_ix (dv 0) de_int) (da_cons (de_op od_add (dv 2) (de_callTy cd_int T.n_int bb_int (da_cons (de_cmp (od_eq hu64) (dv 2) de_int) da_nil))) da_nil))) de_str) (de_ix (dv 0) de_int)) de_str) (de_call G__law_flat hr__law_flat T.t__law_flat.mg T.t__law_flat.fn.kp T.t__law_flat.bi (da_cons (de_ix (dv 0) de_int) (da_cons (de_op od_add (dv 2) de_int) da_nil)))) nd)))
      (dss_one (ds_ret (de_if (dt_cmp od_ge (dv 2) (dv 1)) (dv 3) (de_op od_add (de_op od_add de_str (dv 3)) de_str))))))))), ?_⟩
  obtain ⟨e, l, rfl, hw, hl, hn, k⟩ := h
  cases e with
  | num m =>
    simp only [enc]
    simp only [tx] at k
    simp only [WF] at hw
    walk_at "ev"
    refine ⟨"num", 7, rfl, .inr (.inr (.inr ⟨by decide, rfl⟩)), ?_⟩
    walk_at "ev"
    exact ⟨log2_of _ (by omega) (by omega), k⟩
  | truth b =>
    simp only [enc]
    simp only [tx] at k
    walk_at "ev"
    refine ⟨"truth", 7, rfl, .inr (.inr (.inr ⟨by decide, rfl⟩)), ?_⟩
    cases b
    · walk_at "ev"; exact k
    · walk_at "ev"; exact k
  | name f m =>
    simp only [WF] at hw
    simp only [enc]
    simp only [tx, nmT] at k
    walk_at "ev"
    have e0 : (tl (Str.ofString ".")).length = 1 := rfl
    refine ⟨"name", 7, rfl, .inr (.inr (.inr ⟨by decide, rfl⟩)), ?_⟩
    walk_at "ev"
    refine ite_c (fun q => ?_) (fun q => ?_)
    · rw [if_pos q] at k; walk_at "go"; exact k
    · rw [if_neg q] at k; walk_at "go"; exact k
  | call f m as =>
    simp only [WF] at hw
    obtain ⟨h1, h2, h3, h4⟩ := hw
    simp only [enc]
    simp only [tx, nmT] at k
    walk_at "ev"
    have e0 : (tl (Str.ofString ".")).length = 1 := rfl
    have e1 : (tl (Str.ofString "(")).length = 1 := rfl
    have e2 : (tl (Str.ofString ")")).length = 1 := rfl
    have e3 : (tl (Str.ofString ", ")).length = 2 := rfl
    refine ⟨"call", 7, rfl, .inr (.inr (.inr ⟨by decide, rfl⟩)), ?_⟩
    walk_at "ev"
    have hj := join_len (sep := Str.ofString ", ") (txL_len as n h4)
    have hs := sum_len_le (txL_len as n h4)
    rw [txL_length, e3] at hj
    rw [txL_length] at hs
    have hr := room_le (n := n) (by omega)
    have hm : room n * as.length ≤ room n * 3 := Nat.mul_le_mul_left _ h3
    have step : ∀ (S : DSt), ∀ e ∈ as, ∀ K : DVK, K (.str (tx e 1)) O → onSome (bind1 4 (enc e) [S[0]!, S[1]!, S[2]!, S[3]!, none]) fun S2 => dCall (sp__law_flat n) (dACons (dVar 4) (dACons (dC (DV.int 0)) dANil)) S2 O K := fun S e he K hK => by
      walk_at "ev"
      exact ⟨e, 0, rfl, wfl_mem h4 e he, by omega, by omega, hK⟩
    refine ite_c (fun q => ?_) (fun q => ?_)
    · rw [if_pos q] at k
      walk_at "go"
      refine args_lc (n := n) h3 (fun e he K hK => step [_, _, _, _] e he K hK) ?_
      wp_walk using strsOf_strs
      exact ⟨by rw [txL_length, e3]; omega, by walk_at "sz", by walk_at "sz", k⟩
    · rw [if_neg q] at k
      walk_at "go"
      refine args_lc (n := n) h3 (fun e he K hK => step [_, _, _, _] e he K hK) ?_
      wp_walk using strsOf_strs
      exact ⟨by rw [txL_length, e3]; omega, by walk_at "sz", by walk_at "sz", k⟩
  | un neg a =>
    simp only [WF] at hw
    cases neg
    · simp only [enc, Bool.false_eq_true, if_false]
      simp only [tx, Bool.false_eq_true, if_false] at k
      walk_at "ev"
      refine ⟨"not", 2, rfl, .inr (.inl ⟨rfl, rfl⟩), ?_⟩
      wp_walk using nn_not
      refine ⟨a, 2, rfl, hw, by omega, by omega, ?_⟩
      walk_at "ev"
      have := tx_le (l := 3) hw (by omega)
      have e1 : (tl (Str.ofString "not ")).length = 4 := rfl
      refine ⟨line_of (by omega), par_ok1 (m := 2) (by rw [app_len]; omega) k⟩
    · simp only [enc, if_true]
      simp only [tx, if_true] at k
      walk_at "ev"
      refine ⟨"neg", 6, rfl, .inr (.inr (.inl ⟨rfl, rfl⟩)), ?_⟩
      wp_walk using nn_neg
      refine ⟨a, 6, rfl, hw, by omega, by omega, ?_⟩
      walk_at "ev"
      have := tx_le (l := 7) hw (by omega)
      have e1 : (tl (Str.ofString "-")).length = 1 := rfl
      refine ⟨line_of (by omega), par_ok1 (m := 6) (by rw [app_len]; omega) k⟩
  | bin op a b =>
    simp only [WF] at hw
    obtain ⟨hop, ha, hb⟩ := hw
    obtain ⟨n1, n2, n3, n4, n5, n6, n7, n8⟩ := op_ne hop
    have hm := opLev_le (op := op)
    simp only [enc]
    simp only [tx] at k
    walk_at "ev"
    refine ⟨op, opLev op - 1, rfl, .inl ⟨hop, by omega⟩, ?_⟩
    wp_walk using n1, n2, n3, n4, n5, n6, n7, n8, Ne.symm n5, Ne.symm n6
    have l3 := op_len op hop
    have e1 : (tl (Str.ofString " ")).length = 1 := rfl
    have lb := tx_le (l := opLev op + 1) hb (by omega)
    have la := tx_le (l := lsum (opLev op)) ha (by omega)
    refine ⟨a, lsum (opLev op) - 1, ?_, ha, ?_, by omega, ?_⟩
    · unfold lsum
      split <;> split <;> simp <;> omega
    · unfold lsum; split <;> omega
    rw [show lsum (opLev op) - 1 + 1 = lsum (opLev op) by unfold lsum; split <;> omega]
    walk_at "ev"
    refine ⟨line_of (by omega), line_of (by rw [app_len]; omega), line_of (by rw [app_len, app_len]; omega), b, opLev op, by simp; omega, hb, by omega, by omega, ?_⟩
    walk_at "ev"
    refine ⟨line_of (by rw [app_len, app_len, app_len]; omega), par_ok1 (by rw [app_len, app_len, app_len, app_len]; omega) ?_⟩
    rw [show opLev op - 1 + 1 = opLev op by omega]
    exact k
theorem ok__law_lines (T : Tx K w mg) (n : Nat) (G__law_flat : FnOk P w K mg base CX0 (12) T.f__law_flat T.d__law_flat ["_law_e_here", "_law_level_here"] (liftSp K (sp__law_flat six))) (G__law_lines : FnOk P w K mg base CX0 (n + 14) T.f__law_lines T.d__law_lines ["_law_rows_here", "_law_ahead"] (liftSp K (sp__law_lines n))) : FnOk P w K mg base CX0 (n + 15) T.f__law_lines T.d__law_lines ["_law_rows_here", "_law_ahead"] (liftSp K (sp__law_lines (n + 1))) := by
  refine DFun.ok T.t__law_lines.fn sc__law_lines (by decide) (by rintro _ _ _ _ ⟨_, _, _, rfl, _⟩; rfl) (fun cdv A outer s H E ds O Q ED hr h => ?_)
  have hr__law_flat : Room (12) _ := hr.mono (by omega)
  have hr__law_lines : Room (n + 14) _ := hr.mono (by omega)
  have nd := sc__law_lines.nd
  have hu64 := hr.units
  have hu := hu_of hr
  refine ⟨_, (dss_cons (ds_set 2 (de_lstO da_nil) nd)
      (dss_cons (ds_for PassesOwn.never rfl (di_tup (dv 0)) (dg_name 3 nd) (dss_cons (ds_set 4 (de_if (dt_cmp od_in (de_ix (dv 3) de_int) (de_tup (da_cons de_str (da_cons de_str da_nil)))) (de_ix (dv 3) de_int) (de_ix (dv 3) de_int)) nd)
      (dss_cons (ds_set 5 (de_get2 hu (de_dispF (dpp_cons de_str de_str (dpp_cons de_str de_str dpp_nil))) (de_ix (dv 3) de_int) (de_ix (dv 3) de_int) ⟨rfl, rfl, rfl, rfl⟩) nd)
      (dss_cons (ds_set 5 (de_op od_add (dv 5) (de_if (dt_cmp od_in (de_ix (dv 3) de_int) (de_tup (da_cons de_str (da_cons de_str da_nil)))) (de_op od_add (de_ix (dv 3) de_int) de_str) de_str)) nd)
      (dss_cons (ds_expr (de_bm PySem.F.plainAttrs_list PySem.F.slot_list_append PySem.F.type_list_append md_append (dv 2) (da_cons (de_op od_add (de_op od_add (dv 1) (dv 5)) (de_if (dt_cmp od_isN (dv 4) de_non) de_str (de_op od_add de_str (de_call G__law_flat hr__law_flat T.t__law_flat.mg T.t__law_flat.fn.kp T.t__law_flat.bi (da_cons (dv 4) (da_cons de_int da_nil)))))) da_nil)))
      (dss_one (ds_if (dt_cmp od_in (de_ix (dv 3) de_int) (de_tup (da_cons de_str (da_cons de_str da_nil)))) (dss_cons (ds_set 2 (de_op od_addO (dv 2) (de_call G__law_lines hr__law_lines T.t__law_lines.mg T.t__law_lines.fn.kp T.t__law_lines.bi (da_cons (de_ix (dv 3) de_int) (da_cons (de_op od_add (dv 1) de_str) da_nil)))) nd)
      (dss_cons (ds_if (dt_w (dw_and (dt_cmp (od_eq hu64) (de_ix (dv 3) de_int) de_str) (dw_and1 (dt_cmp (od_ne hu64) (de_ix (dv 3) de_int) (de_tup da_nil))))) (dss_one (ds_set 2 (de_op od_addO (de_op od_add (dv 2) (de_lstF (da_cons (de_op od_add (dv 1) de_str) da_nil))) (de_call G__law_lines hr__law_lines T.t__law_lines.mg T.t__law_lines.fn.kp T.t__law_lines.bi (da_cons (de_ix (dv 3) de_int) (da_cons (de_op od_add (dv 1) de_str) da_nil)))) nd)) dss_nil)
      (dss_one (ds_expr (de_bm PySem.F.plainAttrs_list PySem.F.slot_list_append PySem.F.type_list_append md_append (dv 2) (da_cons (de_op od_add (dv 1) de_str) da_nil)))))) dss_nil)))))))
      (dss_one (ds_retF (dv 2))))), ?_⟩
  obtain ⟨rs, a, m, rfl, hnm, hw, hpr, hl, ha, hn, k⟩ := h
  cases hnm
  walk_at "go"
  intro p hp
  walk_at "go"
  have hc6 := cntR_six (n := n) hn
  refine forW_inv (fun i S O' => ∃ (p' : Addr) (z1 z2 z3 : Option DV), S = [some (.tup (encRs rs)), some (.str a), some (.ref p'), z1, z2, z3] ∧ O' p' = some (.lst ((blkTx (rs.take i) a).map DV.str)) ∧ O p' = none ∧ Fr O O' [])
    ⟨p, none, none, none, rfl, by rw [oset_same]; rfl, hp, Fr.refl.set (.inr hp)⟩ ?_ ?_
  · rintro i S O' d nx he ⟨p', z1, z2, z3, rfl, hO, hpf, hF⟩ hnx
    rw [encRs_map, List.getElem?_map] at he
    cases e0 : rs[i]? with
    | none => rw [e0] at he; cases he
    | some r =>
      rw [e0] at he; cases he
      have hr := List.mem_of_getElem? e0
      have hw1 := wfrs_mem hw r hr
      have hp1 := prs_mem hpr r hr
      have hb := blkTx_len (rs.take i) n a (wfrs_take i hw)
      have hb2 : (rs.take i).length ≤ 5 := by rw [List.length_take]; omega
      have hb3 : (rs.take i).length * cntR n ≤ 5 * cntR n := Nat.mul_le_mul_right _ hb2
      have ht : blkTx (rs.take (i + 1)) a = blkTx (rs.take i) a ++ rowTx r a := by
        rw [List.take_add_one, e0, blkTx_app]
        simp [blkTx]
      have hb4 : (blkTx (rs.take i) a).length ≤ 6666665 := by omega
      clear hw hpr hr hb3 hb
      cases n with
      | zero => simp [WFR] at hw1
      | succ n =>
      simp only [cntR] at hc6
      cases r with
      | lt new m e =>
        simp only [WFR] at hw1
        simp only [rowTx] at ht
        have lx := tx_six (l := 1) hw1.2
        cases new
        · simp only [encR, Bool.false_eq_true, if_false]
          simp only [Bool.false_eq_true, if_false] at ht
          wp_walk using hd_set, Option.getD_some, isNon_enc, hO
          refine ⟨e, 0, rfl, hw1.2, by omega, six_le, ?_⟩
          wp_walk using hO
          rw [set_eq_]
          exact hnx _ _ ⟨p', _, _, _, rfl, by rw [oset_same, ht, List.map_append, List.map_singleton], hpf, hF.set (.inr hpf)⟩
        · simp only [encR, if_true]
          simp only [if_true] at ht
          wp_walk using hd_let, Option.getD_some, isNon_enc, hO
          refine ⟨e, 0, rfl, hw1.2, by omega, six_le, ?_⟩
          wp_walk using hO
          rw [let_eq]
          exact hnx _ _ ⟨p', _, _, _, rfl, by rw [oset_same, ht, List.map_append, List.map_singleton], hpf, hF.set (.inr hpf)⟩
      | one w e =>
        cases e with
        | none =>
          simp only [WFR] at hw1
          subst hw1
          simp only [rowTx, oneTx] at ht
          simp only [encR, encO]
          wp_walk using hd_none (w := Str.ofString "give") (by decide), Option.getD_none, hO
          wp_walk using hO
          rw [give_eq]
          exact hnx _ _ ⟨p', _, _, _, rfl, by rw [oset_same, ht, List.map_append, List.map_singleton], hpf, hF.set (.inr hpf)⟩
        | some e =>
          simp only [WFR] at hw1
          simp only [rowTx, oneTx] at ht
          simp only [encR, encO]
          have lx := tx_six (l := 1) hw1.2
          obtain ⟨hw2, hw3⟩ := hw1
          simp only [List.mem_cons, List.not_mem_nil, or_false] at hw2
          rcases hw2 with rfl | rfl | rfl
          all_goals
            wp_walk using hd_none (w := Str.ofString "give") (by decide), hd_none (w := Str.ofString "say") (by decide), hd_none (w := Str.ofString "do") (by decide), Option.getD_none, isNon_enc, hO
            refine ⟨e, 0, rfl, hw3, by omega, six_le, ?_⟩
            wp_walk using hO
            rw [one_eq_]
            exact hnx _ _ ⟨p', _, _, _, rfl, by rw [oset_same, ht, List.map_append, List.map_singleton], hpf, hF.set (.inr hpf)⟩
      | whl t x =>
        simp only [WFR] at hw1
        simp only [PR] at hp1
        obtain ⟨h1, h2, h3⟩ := hw1
        have lx := tx_six (l := 1) h1
        have lb := blkTx_len x n (a ++ Str.ofString "  ") h3
        have lm : x.length * cntR n ≤ 5 * cntR n := Nat.mul_le_mul_right _ h2
        simp only [rowTx] at ht
        simp only [encR]
        wp_walk using hd_none (w := Str.ofString "while") (by decide), Option.getD_none, isNon_enc, hO
        refine ⟨t, 0, rfl, h1, by omega, six_le, ?_⟩
        wp_walk using hO
        refine ⟨x, a ++ Str.ofString "  ", n, rfl, rfl, h3, hp1.2, h2, by walk_at "sz", by omega, fun O2 hF2 => ?_⟩
        have e2 := hF2.at oset_same (by simp)
        wp_walk using e2
        intro p2 hp2
        walk_at "go"
        have hF3 := (hF.set (c := Cell.lst (List.map DV.str (blkTx (List.take i rs) a) ++ [DV.str (a ++ (Str.ofString "while" ++ Str.ofString "") ++ (Str.ofString " " ++ tx t 1))])) (.inr hpf)).trans hF2
        have hp3 := hF3.none hp2 (by simp)
        refine hnx _ _ ⟨p2, _, _, _, rfl, ?_, hp3, hF3.set (.inr hp3)⟩
        rw [oset_same, ht, one_eq_]
        simp only [List.map_append, List.map_cons, List.map_nil, List.append_assoc]
      | iff t x y =>
        simp only [WFR] at hw1
        simp only [PR] at hp1
        obtain ⟨h1, h2, h3, h4, h5⟩ := hw1
        have lx := tx_six (l := 1) h1
        have lb := blkTx_len x n (a ++ Str.ofString "  ") h4
        have lm : x.length * cntR n ≤ 5 * cntR n := Nat.mul_le_mul_right _ h2
        have lb2 := blkTx_len y n (a ++ Str.ofString "  ") h5
        have lm2 : y.length * cntR n ≤ 5 * cntR n := Nat.mul_le_mul_right _ h3
        have hpu : PureS (2 * n + 15) (.tup (encRs y)) := .tup (n := 2 * n + 14) (pure_encRs y n h5 hp1.2.2)
        simp only [encR]
        wp_walk using hd_none (w := Str.ofString "if") (by decide), Option.getD_none, isNon_enc, hO
        refine ⟨t, 0, rfl, h1, by omega, six_le, ?_⟩
        wp_walk using hO
        refine ⟨x, a ++ Str.ofString "  ", n, rfl, rfl, h4, hp1.2.1, h2, by walk_at "sz", by omega, fun O2 hF2 => ?_⟩
        have e2 := hF2.at oset_same (by simp)
        wp_walk using e2
        intro p2 hp2
        have hF3 := (hF.set (c := Cell.lst (List.map DV.str (blkTx (List.take i rs) a) ++ [DV.str (a ++ (Str.ofString "if" ++ Str.ofString "") ++ (Str.ofString " " ++ tx t 1))])) (.inr hpf)).trans hF2
        have hp3 := hF3.none hp2 (by simp)
        walk_at "go"
        refine tup_nil hpu (by omega) ?_
        rw [one_eq_]
        cases y with
        | nil =>
          wp_walk using encRs, decide_true
          refine hnx _ _ ⟨p2, _, _, _, rfl, ?_, hp3, hF3.set (.inr hp3)⟩
          rw [oset_same, ht]
          simp only [rowTx, List.map_append, List.map_cons, List.map_nil, List.append_assoc, List.append_nil, List.nil_append, List.cons_append]
        | cons r y =>
          wp_walk using List.cons_ne_nil, decide_false, encRs
          refine ⟨r :: y, a ++ Str.ofString "  ", n, by simp only [encRs], rfl, h5, hp1.2.2, h3, by walk_at "sz", by omega, fun O3 hF4 => ?_⟩
          have e3 := hF4.at oset_same (by simp)
          wp_walk using e3
          intro p4 hp4
          have hF5 := (hF3.set (.inr hp3)).trans hF4
          have hp5 := hF5.none hp4 (by simp)
          walk_at "go"
          refine hnx _ _ ⟨p4, _, _, _, rfl, ?_, hp5, hF5.set (.inr hp5)⟩
          rw [oset_same, ht]
          simp only [rowTx, blkTx, List.map_append, List.map_cons, List.map_nil, List.append_assoc, List.append_nil, List.nil_append, List.cons_append]
  · rintro S O' ⟨p', z1, z2, z3, rfl, hO, hpf, hF⟩
    rw [encRs_length, List.take_length] at hO
    wp_walk using hO
    exact k _ (hF.del (.inr hpf))
theorem ok_law (T : Tx K w mg) (n : Nat) (G__law_house : FnOk P w K mg base CX0 (31) T.f__law_house T.d__law_house ["_law_d", "_law_many", "_law_size"] (liftSp K (sp__law_house 0))) (G_text_of : FnOk P w K mg base CX0 (41) T.f_text_of T.d_text_of ["tree"] (liftSp K (sp_text_of 0))) (G__law_lines : FnOk P w K mg base CX0 (20) T.f__law_lines T.d__law_lines ["_law_rows_here", "_law_ahead"] (liftSp K (sp__law_lines 5))) (G__law_flat : FnOk P w K mg base CX0 (12) T.f__law_flat T.d__law_flat ["_law_e_here", "_law_level_here"] (liftSp K (sp__law_flat six))) : FnOk P w K mg base CX0 (50) T.f_law T.d_law ["_law_script"] (liftSp K (sp_law 0)) := by
  refine DFun.ok T.t_law.fn sc_law (by decide) (by intro _ _ _ _ h; obtain ⟨_, rfl, _⟩ := h; rfl) (fun cdv A outer s H E ds O Q ED hr h => ?_)
  have hr__law_house : Room (31) _ := hr.mono (by omega)
  have hr_text_of : Room (41) _ := hr.mono (by omega)
  have hr__law_lines : Room (20) _ := hr.mono (by omega)
  have hr__law_flat : Room (12) _ := hr.mono (by omega)
  have nd := sc_law.nd
  have hu64 := hr.units
  have hu := hu_of hr
  have G__law_dice := ok__law_dice (P := P) (base := base) T
  have hr__law_dice : Room 1 _ := hr.mono (by omega)
  have G__law_like := ok__law_like (P := P) (base := base) T 1
  have hr__law_like : Room 2 _ := hr.mono (by omega)
  refine ⟨_, (dss_cons (ds_set 1 (de_call G__law_dice hr__law_dice T.t__law_dice.mg T.t__law_dice.fn.kp T.t__law_dice.bi (da_cons (dv 0) da_nil)) nd)
      (dss_cons (ds_set 2 (de_call G__law_house hr__law_house T.t__law_house.mg T.t__law_house.fn.kp T.t__law_house.bi (da_cons (dv 1) (da_cons de_int (da_cons de_int da_nil)))) nd)
      (dss_cons (ds_for PassesOwn.never rfl (di_list (de_callB (cd_sortD rfl) T.n_sorted bb_sorted (da_cons (dv 2) da_nil))) (dg_name 3 nd) (dss_cons (ds_asg (de_dix hu (dv 2) (dv 3)) (dg_tup (n := 2) rfl (dgs_cons (dg_name 4 nd) (dgs_cons (dg_name 5 nd) dgs_nil))))
      (dss_cons (ds_set 6 (de_op od_mulO (de_lstF (da_cons (de_op od_add de_str (de_bm PySem.F.plainAttrs_str PySem.F.slot_str_join PySem.F.type_str_join md_join de_str (da_cons (de_lc false (own := [("_law_one", 7)]) rfl nd  (di_tup (dv 4)) (blkOk_by (N := N_law) (sc := defScope s_law) (by decide +kernel)) (tgt_1 (i := 7) (by decide)) (fun _ _ _ _ _ => (pg_name (i := 7) nd rfl (Or.inl rfl))) (fun _ _ _ _ _ => dts_nil) (fun _ _ _ _ _ => (de_ix (dv 7) de_int))) da_nil))) da_nil)) (de_callTy cd_int T.n_int bb_int (da_cons (de_cmp (od_ne hu64) (dv 4) (de_tup da_nil)) da_nil))) nd)
      (dss_cons (ds_for PassesOwn.never rfl (di_tup (dv 5)) (dg_name 7 nd) (dss_cons (ds_set 8 (de_op od_add (de_op od_add (de_op od_add (de_op od_mulS de_str (de_callTy cd_int T.n_int bb_int (da_cons (de_ix (dv 7) de_int) da_nil))) (de_ix (dv 7) de_int)) de_str) (de_ix (dv 7) de_int)) nd)
      (dss_one (ds_if (dt_cmp (od_eq hu64) (de_ix (dv 7) de_int) de_str) (dss_cons (ds_set 9 (de_bm PySem.F.plainAttrs_str PySem.F.slot_str_join PySem.F.type_str_join md_join de_str (da_cons (de_lc false (own := [("_law_part", 10)]) rfl nd  (di_tup (de_ix (dv 7) de_int)) (blkOk_by (N := N_law) (sc := defScope s_law) (by decide +kernel)) (tgt_1 (i := 10) (by decide)) (fun _ _ _ _ _ => (pg_name (i := 10) nd rfl (Or.inl rfl))) (fun _ _ _ _ _ => dts_nil) (fun _ _ _ _ _ => (de_op od_add (de_op od_add (de_ix (dv 10) de_int) de_str) (de_ix (dv 10) de_int)))) da_nil)) nd)
      (dss_cons (ds_expr (de_bm PySem.F.plainAttrs_list PySem.F.slot_list_append PySem.F.type_list_append md_append (dv 6) (da_cons (de_op od_add (de_op od_add (de_op od_add (de_op od_add (dv 8) de_str) (dv 9)) de_str) (de_if (dt_cmp (od_ne hu64) (de_ix (dv 7) de_int) de_str) (de_op od_add de_str (de_ix (dv 7) de_int)) de_str)) da_nil)))
      (dss_one (ds_set 6 (de_op od_addO (de_op od_add (dv 6) (de_call G__law_lines hr__law_lines T.t__law_lines.mg T.t__law_lines.fn.kp T.t__law_lines.bi (da_cons (de_ix (dv 7) de_int) (da_cons de_str da_nil)))) (de_lstF (da_cons de_str da_nil))) nd)))) (dss_one (ds_expr (de_bm PySem.F.plainAttrs_list PySem.F.slot_list_append PySem.F.type_list_append md_append (dv 6) (da_cons (de_op od_add (de_op od_add (dv 8) de_str) (de_call G__law_flat hr__law_flat T.t__law_flat.mg T.t__law_flat.fn.kp T.t__law_flat.bi (da_cons (de_ix (dv 7) de_int) (da_cons de_int da_nil)))) da_nil))))))))
      (dss_one (ds_if (dt_not (dt_val (de_call G__law_like hr__law_like T.t__law_like.mg T.t__law_like.fn.kp T.t__law_like.bi (da_cons (de_call G_text_of hr_text_of T.t_text_of.mg T.t_text_of.fn.kp T.t_text_of.bi (da_cons (de_dix hu (dv 2) (dv 3)) da_nil)) (da_cons (de_bm PySem.F.plainAttrs_str PySem.F.slot_str_join PySem.F.type_str_join md_join de_str (da_cons (dv 6) da_nil)) da_nil))))) (dss_one (ds_ret de_bl)) dss_nil))))))
      (dss_one (ds_ret (de_cmp (od_eq hu64) (de_call G_text_of hr_text_of T.t_text_of.mg T.t_text_of.fn.kp T.t_text_of.bi (da_cons (de_tup (da_cons (de_tup da_nil) (da_cons (de_tup da_nil) da_nil))) da_nil)) de_str)))))), ?_⟩
  obtain ⟨ns, rfl, hn, rfl, k⟩ := h
  walk_at "ev"
  refine ⟨ns, rfl, hn, fun d c hd0 hD => ?_⟩
  walk_at "ev"
  refine ⟨d, c, rfl, oset_same, hD, fun p es dc O1 hes hel hD1 ha1 hp1 hF1 => ?_⟩
  wp_walk using hp1
  refine ⟨es.map (·.1), by rw [List.map_map, List.map_map]; rfl, by rw [List.length_map]; omega, fun ys hys => ?_⟩
  have nl1 : (tl (Str.ofString "\n")).length = 1 := rfl
  refine forW_inv (fun i S O' => ∃ (z3 z4 z5 z6 z7 z8 z9 z10 : Option DV), S = [some (.slst (ns.map DV.int)), some (.ref d), some (.ref p), z3, z4, z5, z6, z7, z8, z9, z10] ∧ O' p = some (.dK (es.map encFl))) ⟨none, none, none, none, none, none, none, none, rfl, hp1⟩ ?_ ?_
  · rintro i S O2 d2 nx he ⟨z3, z4, z5, z6, z7, z8, z9, z10, rfl, hp2⟩ hnx
    rw [List.getElem?_map] at he
    cases e0 : ys[i]? with
    | none => rw [e0] at he; cases he
    | some f =>
      rw [e0] at he; cases he
      have hf : f ∈ es.map (·.1) := hys.mem_iff.mp (List.mem_of_getElem? e0)
      obtain ⟨us, ts, hm, hg⟩ := dget_fl hf
      obtain ⟨g1, g2, g3, g4⟩ := hes _ hm
      dsimp only at g1 g2 g3 g4
      clear hys hF1 e0 hf
      have hus : ∀ u ∈ us, (tl u).length ≤ 10 := fun u hu => by have := isName_len (g2 u hu); omega
      have hj := join_len (sep := Str.ofString ", ") hus
      have hjs := sum_len_le hus
      rw [lit_comma] at hj
      have hlu : (useTx us).length ≤ 1 := by unfold useTx; split <;> simp
      have hle : ∀ x ∈ useTx us, (tl x).length ≤ 1100 := by
        unfold useTx
        split
        · simp
        · intro x hx
          simp only [List.mem_singleton] at hx
          subst hx
          rw [app_len, lit_use]; omega
      have hta := allTx_cnt g4
      have hte := allTx_each g4
      walk_at "e1"
      refine dSeq_mid2 (fun S' O' => ∃ (pd : Addr), S' = [some (.slst (ns.map DV.int)), some (.ref d), some (.ref p), some (.str f), some (.tup (us.map encU)), some (.tup (ts.map encT)), some (.ref pd), z7, z8, z9, z10] ∧ O' p = some (.dK (es.map encFl)) ∧ O' pd = some (.lst ((useTx us).map DV.str)) ∧ pd ≠ p) (fun R hR => ?_) ?_
      · wp_walk using hp2, hg
        refine lcW_map encU DV.str us [] (fun u hu K hK => ?_) (by show 0 + _ < _; omega) ?_
        · simp only [encU]
          walk_at "go"
          exact hK
        wp_walk using strsOf_strs
        have hpu : PureS 2 (.tup (us.map encU)) := .tup (n := 1) fun x hx => by
          obtain ⟨u, hu, rfl⟩ := List.mem_map.mp hx
          refine .tup (n := 0) fun y hy => ?_
          simp only [List.mem_cons, List.not_mem_nil, or_false] at hy
          rcases hy with rfl | rfl
          · exact .non
          · exact .str _ (isName_cps (g2 u hu))
        refine tup_nil hpu (by omega) ?_
        rcases Decidable.em (us = []) with q | q
        · subst q
          wp_walk using List.map_nil, decide_true, rep0
          intro pd hpd
          have hne : pd ≠ p := Ne.symm (ne_of hp2 hpd)
          refine hR _ _ ⟨pd, rfl, keep_at hpd hp2, by rw [oset_same]; rfl, hne⟩
        · have hm2 : ¬ (us.map encU = []) := by simpa using q
          wp_walk using hm2, decide_false, rep1
          intro pd hpd
          have hne : pd ≠ p := Ne.symm (ne_of hp2 hpd)
          refine hR _ _ ⟨pd, rfl, keep_at hpd hp2, by rw [oset_same]; unfold useTx; rw [if_neg q]; rfl, hne⟩
      rintro S' O3 ⟨pd, rfl, hp3, hd3, hne3⟩
      clear hp2
      walk_at "ev"
      refine forW_inv (fun j S O' => ∃ (pd : Addr) (z7 z8 z9 z10 : Option DV), S = [some (.slst (ns.map DV.int)), some (.ref d), some (.ref p), some (.str f), some (.tup (us.map encU)), some (.tup (ts.map encT)), some (.ref pd), z7, z8, z9, z10] ∧ O' p = some (.dK (es.map encFl)) ∧ O' pd = some (.lst ((useTx us ++ allTx (ts.take j)).map DV.str)) ∧ pd ≠ p)
        ⟨pd, z7, z8, z9, z10, rfl, hp3, by rw [hd3, List.take_zero]; simp [allTx], hne3⟩ ?_ ?_
      · clear hnx hp3 hd3 hne3
        rintro j S O4 d3 nx he ⟨pd, z7, z8, z9, z10, rfl, hp4, hd4, hne4⟩ hnx
        rw [List.getElem?_map] at he
        cases e1 : ts[j]? with
        | none => rw [e1] at he; cases he
        | some t =>
          rw [e1] at he; cases he
          have hwt := g4 t (List.mem_of_getElem? e1)
          have htk : allTx (ts.take (j + 1)) = allTx (ts.take j) ++ toldTx t := by
            rw [List.take_add_one, e1, allTx_app]
            simp [allTx]
          have hlt : (allTx (ts.take j)).length ≤ 500 := by
            have := allTx_cnt (ts := ts.take j) (fun t ht => g4 t (List.mem_of_mem_take ht))
            have h5 : (ts.take j).length ≤ 4 := by rw [List.length_take]; omega
            omega
          cases t with
          | val w out m e =>
            simp only [WFT] at hwt
            obtain ⟨w1, w2, w3⟩ := hwt
            have lx := tx_six (l := 1) w3
            have lo := outT_len (b := out)
            simp only [encT]
            simp only [toldTx] at htk
            rcases w1 with rfl | rfl
            all_goals
              cases out
              all_goals
                wp_walk using hd4, rep_one, rep_zero
                refine ⟨e, 0, rfl, w3, by omega, six_le, ?_⟩
                wp_walk using hd4
                refine hnx _ _ ⟨pd, _, _, _, _, rfl, by rw [oset_ne (Ne.symm hne4)]; exact hp4, ?_, hne4⟩
                rw [oset_same, htk]
                simp only [List.map_append, List.map_cons, List.map_nil, List.append_assoc]
                rfl
          | dfn out m ps kd rs =>
            simp only [WFT] at hwt
            obtain ⟨w1, w2, w3, w4, w5, w6, w7, w8⟩ := hwt
            have lj := prT_join w2 w3
            have lb := blkTx_cnt rs "  "
            simp only [encT]
            simp only [toldTx, hdT] at htk
            cases out
            all_goals
              wp_walk using hd4, rep_one, rep_zero
              refine lcW_map encP (fun q => .str (prT q)) ps [] (fun q hq K hK => ?_) (by show 0 + _ < _; omega) ?_
              · have := w3 q hq
                simp only [encP]
                walk_at "go"
                exact hK
              wp_walk using strsOf_map, hd4
              rcases Decidable.em (kd = Str.ofString "") with q | q
              all_goals
                first
                  | rw [if_pos q] at htk
                  | rw [if_neg q] at htk
                wp_walk using q, hd4
                refine ⟨rs, Str.ofString "  ", 4, rfl, rfl, w5, w6, w7, by decide, by omega, fun O6 hF6 => ?_⟩
                have e6 := hF6.at oset_same (by simp)
                have p6 := hF6.at (b := p) (by rw [oset_ne (Ne.symm hne4)]; exact hp4) (by simp)
                wp_walk using e6
                intro p2 hp2
                walk_at "go"
                refine hnx _ _ ⟨p2, _, _, _, _, rfl, keep_at hp2 p6, ?_, Ne.symm (ne_of p6 hp2)⟩
                rw [oset_same, htk, hd_eq]
                simp only [List.map_append, List.map_cons, List.map_nil, List.append_assoc, List.cons_append, List.nil_append]
                rfl
      · rintro S O4 ⟨pd, z7, z8, z9, z10, rfl, hp4, hd4, hne4⟩
        rw [List.length_map, List.take_length] at hd4
        have hal : ∀ x ∈ useTx us ++ allTx ts, (tl x).length ≤ 1100 := fun x hx => by
          rcases List.mem_append.mp hx with hx | hx
          · exact hle x hx
          · exact hte x hx
        have hsum := sum_len_le hal
        rw [List.length_append] at hsum
        wp_walk using hp4, hg
        refine ⟨us, ts, rfl, g1, fun u hu => ⟨hus u hu, isName_cps (g2 u hu)⟩, g3, g4, ?_⟩
        wp_walk using hd4, strsOf_strs
        refine ⟨by rw [List.length_append, nl1]; omega, ?_⟩
        refine ⟨_, _, _, 0, rfl, rfl, .str _, .inl rfl, .inl rfl, ?_⟩
        walk_at "go"
        exact hnx _ _ ⟨_, _, _, _, _, _, _, _, rfl, hp4⟩
  · rintro S O2 ⟨z3, z4, z5, z6, z7, z8, z9, z10, rfl, hp2⟩
    walk_at "go"
    refine ⟨[], [], rfl, by simp, by simp, by simp, by simp, ?_⟩
    have e : fileTx [] [] = Str.ofString "" := by decide
    wp_walk using e
    exact k _
end
end W1

set_option Elab.async false
set_option linter.all false
set_option maxRecDepth 100000
set_option maxHeartbeats 4000000
namespace W1
open PySem PySem.Spec PyProof.Rows L2 TL DL
section
variable {P : Program} {w : World} {K : PySem.W.Frag} {mg : Str → Option Value} {base : Heap}
theorem w_ok (T : Tx K w mg) : ∀ n : Nat, FnOk P w K mg base CX0 (2 * n + 2) T.f_worth_text T.d_worth_text ["e", "level"] (liftSp K (sp_worth_text n))
  | 0 => fn_false (fun ds O Q E h => by obtain ⟨e, l, _, hw, _⟩ := h; simp [WF] at hw)
  | n + 1 => (ok_worth_text T n (w_ok T n) (ok_named_text T n (w_ok T n))).mono (by omega)
theorem w14 (T : Tx K w mg) : FnOk P w K mg base CX0 14 T.f_worth_text T.d_worth_text ["e", "level"] (liftSp K (sp_worth_text six)) := (w_ok T six).mono (by have := six_le; omega)
theorem r_ok (T : Tx K w mg) : ∀ n : Nat, FnOk P w K mg base CX0 (2 * n + 21) T.f_row_texts T.d_row_texts ["row", "ahead"] (liftSp K (sp_row_texts n))
  | 0 => fn_false (fun ds O Q E h => by obtain ⟨r, a, _, hw, _⟩ := h; simp [WFR] at hw)
  | n + 1 => (ok_row_texts T n (ok_block_texts T n (r_ok T n)) (w14 T)).mono (by omega)
theorem t_ok (T : Tx K w mg) : FnOk P w K mg base CX0 40 T.f_told_texts T.d_told_texts ["one"] (liftSp K (sp_told_texts 0)) := ok_told_texts T 0 (w14 T) ((ok_block_texts T 4 (r_ok T 4)).mono (by omega))
theorem x_ok (T : Tx K w mg) : FnOk P w K mg base CX0 41 T.f_text_of T.d_text_of ["tree"] (liftSp K (sp_text_of 0)) := ok_text_of T 0 (t_ok T)
theorem e_ok (T : Tx K w mg) : ∀ n : Nat, FnOk P w K mg base CX0 (n + 4) T.f__law_e T.d__law_e ["_law_d", "_law_kind", "_law_c", "_law_deep"] (liftSp K (sp__law_e n))
  | 0 => fn_false (fun ds O Q E h => by obtain ⟨_, _, _, _, _, _, _, _, _, _, _, _, _, _, _, _, h, _⟩ := h; omega)
  | n + 1 => (ok__law_e T n (e_ok T n)).mono (by omega)
theorem e12 (T : Tx K w mg) : FnOk P w K mg base CX0 12 T.f__law_e T.d__law_e ["_law_d", "_law_kind", "_law_c", "_law_deep"] (liftSp K (sp__law_e 7)) := (e_ok T 7).mono (by omega)
theorem o_ok (T : Tx K w mg) : ∀ n : Nat, FnOk P w K mg base CX0 (2 * n + 13) T.f__law_one_row T.d__law_one_row ["_law_d", "_law_c", "_law_deep"] (liftSp K (sp__law_one_row n))
  | 0 => fn_false (fun ds O Q E h => by obtain ⟨_, _, _, _, _, _, _, _, _, _, _, _, _, _, h, _⟩ := h; omega)
  | n + 1 => (ok__law_one_row T n (e12 T) (ok__law_rows T n (o_ok T n))).mono (by omega)
theorem f_ok (T : Tx K w mg) : FnOk P w K mg base CX0 30 T.f__law_filled T.d__law_filled ["_law_d", "_law_plan", "_law_all_told", "_law_used"] (liftSp K (sp__law_filled 0)) := ok__law_filled T 0 (e12 T) ((ok__law_rows T 5 (o_ok T 5)).mono (by omega))
theorem h_ok (T : Tx K w mg) : FnOk P w K mg base CX0 31 T.f__law_house T.d__law_house ["_law_d", "_law_many", "_law_size"] (liftSp K (sp__law_house 0)) := ok__law_house T 0 (f_ok T)
theorem fl_ok (T : Tx K w mg) : ∀ n : Nat, FnOk P w K mg base CX0 (n + 2) T.f__law_flat T.d__law_flat ["_law_e_here", "_law_level_here"] (liftSp K (sp__law_flat n))
  | 0 => fn_false (fun ds O Q E h => by obtain ⟨e, l, _, hw, _⟩ := h; simp [WF] at hw)
  | n + 1 => (ok__law_flat T n (fl_ok T n)).mono (by omega)
theorem fl12 (T : Tx K w mg) : FnOk P w K mg base CX0 12 T.f__law_flat T.d__law_flat ["_law_e_here", "_law_level_here"] (liftSp K (sp__law_flat six)) := (fl_ok T six).mono (by have := six_le; omega)
theorem ln_ok (T : Tx K w mg) : ∀ n : Nat, FnOk P w K mg base CX0 (n + 14) T.f__law_lines T.d__law_lines ["_law_rows_here", "_law_ahead"] (liftSp K (sp__law_lines n))
  | 0 => fn_false (fun ds O Q E h => by obtain ⟨_, _, m, _, h, _⟩ := h; omega)
  | n + 1 => (ok__law_lines T n (fl12 T) (ln_ok T n)).mono (by omega)
theorem l_ok (T : Tx K w mg) : FnOk P w K mg base CX0 50 T.f_law T.d_law ["_law_script"] (liftSp K spLaw) := ok_law T 0 (h_ok T) (x_ok T) ((ln_ok T 5).mono (by omega)) (fl12 T)
end
end W1

set_option Elab.async false
set_option linter.all false
set_option maxRecDepth 100000
set_option maxHeartbeats 4000000
namespace W1
open PySem PySem.Spec PyProof.Rows L2 TL DL
theorem all_mk {l : PySem.W.OpenLaw} {w : World} {K : PySem.W.Frag} {h : Heap} {mg : Str → Option Value} {fa : Addr} (X : K.In h) (G : h.Ns mainGlobals mg) (hfa : mg "law" = some (.ref fa))
    {f_worth_text : Addr} {od_worth_text an_worth_text : Option Addr} {sl_worth_text : Array (Option Value)} {oc_worth_text kV_worth_text dc_worth_text pm_worth_text cd_worth_text ct_worth_text : Value}
    (a_worth_text : PySem.W.nsIn K mainGlobals "worth_text" = some (some (.ref f_worth_text))) (l_worth_text : K.lookup f_worth_text = some ⟨oc_worth_text, od_worth_text, .func (PySem.W.fnOf "worth_text" "worth_text" (defArgs s_worth_text) (defBody s_worth_text) (defScope s_worth_text) .none kV_worth_text dc_worth_text pm_worth_text an_worth_text cd_worth_text ct_worth_text), sl_worth_text⟩) (c_worth_text : PySem.W.codeIn K cd_worth_text "worth_text" = true) (k_worth_text : PySem.W.keepIn K (.ref f_worth_text) = true)
    {f_named_text : Addr} {od_named_text an_named_text : Option Addr} {sl_named_text : Array (Option Value)} {oc_named_text kV_named_text dc_named_text pm_named_text cd_named_text ct_named_text : Value}
    (a_named_text : PySem.W.nsIn K mainGlobals "named_text" = some (some (.ref f_named_text))) (l_named_text : K.lookup f_named_text = some ⟨oc_named_text, od_named_text, .func (PySem.W.fnOf "named_text" "named_text" (defArgs s_named_text) (defBody s_named_text) (defScope s_named_text) .none kV_named_text dc_named_text pm_named_text an_named_text cd_named_text ct_named_text), sl_named_text⟩) (c_named_text : PySem.W.codeIn K cd_named_text "named_text" = true) (k_named_text : PySem.W.keepIn K (.ref f_named_text) = true)
    {f_row_texts : Addr} {od_row_texts an_row_texts : Option Addr} {sl_row_texts : Array (Option Value)} {oc_row_texts kV_row_texts dc_row_texts pm_row_texts cd_row_texts ct_row_texts : Value}
    (a_row_texts : PySem.W.nsIn K mainGlobals "row_texts" = some (some (.ref f_row_texts))) (l_row_texts : K.lookup f_row_texts = some ⟨oc_row_texts, od_row_texts, .func (PySem.W.fnOf "row_texts" "row_texts" (defArgs s_row_texts) (defBody s_row_texts) (defScope s_row_texts) .none kV_row_texts dc_row_texts pm_row_texts an_row_texts cd_row_texts ct_row_texts), sl_row_texts⟩) (c_row_texts : PySem.W.codeIn K cd_row_texts "row_texts" = true) (k_row_texts : PySem.W.keepIn K (.ref f_row_texts) = true)
    {f_block_texts : Addr} {od_block_texts an_block_texts : Option Addr} {sl_block_texts : Array (Option Value)} {oc_block_texts kV_block_texts dc_block_texts pm_block_texts cd_block_texts ct_block_texts : Value}
    (a_block_texts : PySem.W.nsIn K mainGlobals "block_texts" = some (some (.ref f_block_texts))) (l_block_texts : K.lookup f_block_texts = some ⟨oc_block_texts, od_block_texts, .func (PySem.W.fnOf "block_texts" "block_texts" (defArgs s_block_texts) (defBody s_block_texts) (defScope s_block_texts) .none kV_block_texts dc_block_texts pm_block_texts an_block_texts cd_block_texts ct_block_texts), sl_block_texts⟩) (c_block_texts : PySem.W.codeIn K cd_block_texts "block_texts" = true) (k_block_texts : PySem.W.keepIn K (.ref f_block_texts) = true)
    {f_told_texts : Addr} {od_told_texts an_told_texts : Option Addr} {sl_told_texts : Array (Option Value)} {oc_told_texts kV_told_texts dc_told_texts pm_told_texts cd_told_texts ct_told_texts : Value}
    (a_told_texts : PySem.W.nsIn K mainGlobals "told_texts" = some (some (.ref f_told_texts))) (l_told_texts : K.lookup f_told_texts = some ⟨oc_told_texts, od_told_texts, .func (PySem.W.fnOf "told_texts" "told_texts" (defArgs s_told_texts) (defBody s_told_texts) (defScope s_told_texts) .none kV_told_texts dc_told_texts pm_told_texts an_told_texts cd_told_texts ct_told_texts), sl_told_texts⟩) (c_told_texts : PySem.W.codeIn K cd_told_texts "told_texts" = true) (k_told_texts : PySem.W.keepIn K (.ref f_told_texts) = true)
    {f_text_of : Addr} {od_text_of an_text_of : Option Addr} {sl_text_of : Array (Option Value)} {oc_text_of kV_text_of dc_text_of pm_text_of cd_text_of ct_text_of : Value}
    (a_text_of : PySem.W.nsIn K mainGlobals "text_of" = some (some (.ref f_text_of))) (l_text_of : K.lookup f_text_of = some ⟨oc_text_of, od_text_of, .func (PySem.W.fnOf "text_of" "text_of" (defArgs s_text_of) (defBody s_text_of) (defScope s_text_of) .none kV_text_of dc_text_of pm_text_of an_text_of cd_text_of ct_text_of), sl_text_of⟩) (c_text_of : PySem.W.codeIn K cd_text_of "text_of" = true) (k_text_of : PySem.W.keepIn K (.ref f_text_of) = true)
    {f__law_dice : Addr} {od__law_dice an__law_dice : Option Addr} {sl__law_dice : Array (Option Value)} {oc__law_dice kV__law_dice dc__law_dice pm__law_dice cd__law_dice ct__law_dice : Value}
    (a__law_dice : PySem.W.nsIn K mainGlobals "_law_dice" = some (some (.ref f__law_dice))) (l__law_dice : K.lookup f__law_dice = some ⟨oc__law_dice, od__law_dice, .func (PySem.W.fnOf "_law_dice" "_law_dice" (defArgs s__law_dice) (defBody s__law_dice) (defScope s__law_dice) .none kV__law_dice dc__law_dice pm__law_dice an__law_dice cd__law_dice ct__law_dice), sl__law_dice⟩) (c__law_dice : PySem.W.codeIn K cd__law_dice "_law_dice" = true) (k__law_dice : PySem.W.keepIn K (.ref f__law_dice) = true)
    {f__law_next : Addr} {od__law_next an__law_next : Option Addr} {sl__law_next : Array (Option Value)} {oc__law_next kV__law_next dc__law_next pm__law_next cd__law_next ct__law_next : Value}
    (a__law_next : PySem.W.nsIn K mainGlobals "_law_next" = some (some (.ref f__law_next))) (l__law_next : K.lookup f__law_next = some ⟨oc__law_next, od__law_next, .func (PySem.W.fnOf "_law_next" "_law_next" (defArgs s__law_next) (defBody s__law_next) (defScope s__law_next) .none kV__law_next dc__law_next pm__law_next an__law_next cd__law_next ct__law_next), sl__law_next⟩) (c__law_next : PySem.W.codeIn K cd__law_next "_law_next" = true) (k__law_next : PySem.W.keepIn K (.ref f__law_next) = true)
    {f__law_like : Addr} {od__law_like an__law_like : Option Addr} {sl__law_like : Array (Option Value)} {oc__law_like kV__law_like dc__law_like pm__law_like cd__law_like ct__law_like : Value}
    (a__law_like : PySem.W.nsIn K mainGlobals "_law_like" = some (some (.ref f__law_like))) (l__law_like : K.lookup f__law_like = some ⟨oc__law_like, od__law_like, .func (PySem.W.fnOf "_law_like" "_law_like" (defArgs s__law_like) (defBody s__law_like) (defScope s__law_like) .none kV__law_like dc__law_like pm__law_like an__law_like cd__law_like ct__law_like), sl__law_like⟩) (c__law_like : PySem.W.codeIn K cd__law_like "_law_like" = true) (k__law_like : PySem.W.keepIn K (.ref f__law_like) = true)
    {f__law_pick : Addr} {od__law_pick an__law_pick : Option Addr} {sl__law_pick : Array (Option Value)} {oc__law_pick kV__law_pick dc__law_pick pm__law_pick cd__law_pick ct__law_pick : Value}
    (a__law_pick : PySem.W.nsIn K mainGlobals "_law_pick" = some (some (.ref f__law_pick))) (l__law_pick : K.lookup f__law_pick = some ⟨oc__law_pick, od__law_pick, .func (PySem.W.fnOf "_law_pick" "_law_pick" (defArgs s__law_pick) (defBody s__law_pick) (defScope s__law_pick) .none kV__law_pick dc__law_pick pm__law_pick an__law_pick cd__law_pick ct__law_pick), sl__law_pick⟩) (c__law_pick : PySem.W.codeIn K cd__law_pick "_law_pick" = true) (k__law_pick : PySem.W.keepIn K (.ref f__law_pick) = true)
    {f__law_word : Addr} {od__law_word an__law_word : Option Addr} {sl__law_word : Array (Option Value)} {oc__law_word kV__law_word dc__law_word pm__law_word cd__law_word ct__law_word : Value}
    (a__law_word : PySem.W.nsIn K mainGlobals "_law_word" = some (some (.ref f__law_word))) (l__law_word : K.lookup f__law_word = some ⟨oc__law_word, od__law_word, .func (PySem.W.fnOf "_law_word" "_law_word" (defArgs s__law_word) (defBody s__law_word) (defScope s__law_word) .none kV__law_word dc__law_word pm__law_word an__law_word cd__law_word ct__law_word), sl__law_word⟩) (c__law_word : PySem.W.codeIn K cd__law_word "_law_word" = true) (k__law_word : PySem.W.keepIn K (.ref f__law_word) = true)
    {f__law_e : Addr} {od__law_e an__law_e : Option Addr} {sl__law_e : Array (Option Value)} {oc__law_e kV__law_e dc__law_e pm__law_e cd__law_e ct__law_e : Value}
    (a__law_e : PySem.W.nsIn K mainGlobals "_law_e" = some (some (.ref f__law_e))) (l__law_e : K.lookup f__law_e = some ⟨oc__law_e, od__law_e, .func (PySem.W.fnOf "_law_e" "_law_e" (defArgs s__law_e) (defBody s__law_e) (defScope s__law_e) .none kV__law_e dc__law_e pm__law_e an__law_e cd__law_e ct__law_e), sl__law_e⟩) (c__law_e : PySem.W.codeIn K cd__law_e "_law_e" = true) (k__law_e : PySem.W.keepIn K (.ref f__law_e) = true)
    {f__law_rows : Addr} {od__law_rows an__law_rows : Option Addr} {sl__law_rows : Array (Option Value)} {oc__law_rows kV__law_rows dc__law_rows pm__law_rows cd__law_rows ct__law_rows : Value}
    (a__law_rows : PySem.W.nsIn K mainGlobals "_law_rows" = some (some (.ref f__law_rows))) (l__law_rows : K.lookup f__law_rows = some ⟨oc__law_rows, od__law_rows, .func (PySem.W.fnOf "_law_rows" "_law_rows" (defArgs s__law_rows) (defBody s__law_rows) (defScope s__law_rows) .none kV__law_rows dc__law_rows pm__law_rows an__law_rows cd__law_rows ct__law_rows), sl__law_rows⟩) (c__law_rows : PySem.W.codeIn K cd__law_rows "_law_rows" = true) (k__law_rows : PySem.W.keepIn K (.ref f__law_rows) = true)
    {f__law_one_row : Addr} {od__law_one_row an__law_one_row : Option Addr} {sl__law_one_row : Array (Option Value)} {oc__law_one_row kV__law_one_row dc__law_one_row pm__law_one_row cd__law_one_row ct__law_one_row : Value}
    (a__law_one_row : PySem.W.nsIn K mainGlobals "_law_one_row" = some (some (.ref f__law_one_row))) (l__law_one_row : K.lookup f__law_one_row = some ⟨oc__law_one_row, od__law_one_row, .func (PySem.W.fnOf "_law_one_row" "_law_one_row" (defArgs s__law_one_row) (defBody s__law_one_row) (defScope s__law_one_row) .none kV__law_one_row dc__law_one_row pm__law_one_row an__law_one_row cd__law_one_row ct__law_one_row), sl__law_one_row⟩) (c__law_one_row : PySem.W.codeIn K cd__law_one_row "_law_one_row" = true) (k__law_one_row : PySem.W.keepIn K (.ref f__law_one_row) = true)
    {f__law_house : Addr} {od__law_house an__law_house : Option Addr} {sl__law_house : Array (Option Value)} {oc__law_house kV__law_house dc__law_house pm__law_house cd__law_house ct__law_house : Value}
    (a__law_house : PySem.W.nsIn K mainGlobals "_law_house" = some (some (.ref f__law_house))) (l__law_house : K.lookup f__law_house = some ⟨oc__law_house, od__law_house, .func (PySem.W.fnOf "_law_house" "_law_house" (defArgs s__law_house) (defBody s__law_house) (defScope s__law_house) .none kV__law_house dc__law_house pm__law_house an__law_house cd__law_house ct__law_house), sl__law_house⟩) (c__law_house : PySem.W.codeIn K cd__law_house "_law_house" = true) (k__law_house : PySem.W.keepIn K (.ref f__law_house) = true)
    {f__law_level : Addr} {od__law_level an__law_level : Option Addr} {sl__law_level : Array (Option Value)} {oc__law_level kV__law_level dc__law_level pm__law_level cd__law_level ct__law_level : Value}
    (a__law_level : PySem.W.nsIn K mainGlobals "_law_level" = some (some (.ref f__law_level))) (l__law_level : K.lookup f__law_level = some ⟨oc__law_level, od__law_level, .func (PySem.W.fnOf "_law_level" "_law_level" (defArgs s__law_level) (defBody s__law_level) (defScope s__law_level) .none kV__law_level dc__law_level pm__law_level an__law_level cd__law_level ct__law_level), sl__law_level⟩) (c__law_level : PySem.W.codeIn K cd__law_level "_law_level" = true) (k__law_level : PySem.W.keepIn K (.ref f__law_level) = true)
    {f__law_filled : Addr} {od__law_filled an__law_filled : Option Addr} {sl__law_filled : Array (Option Value)} {oc__law_filled kV__law_filled dc__law_filled pm__law_filled cd__law_filled ct__law_filled : Value}
    (a__law_filled : PySem.W.nsIn K mainGlobals "_law_filled" = some (some (.ref f__law_filled))) (l__law_filled : K.lookup f__law_filled = some ⟨oc__law_filled, od__law_filled, .func (PySem.W.fnOf "_law_filled" "_law_filled" (defArgs s__law_filled) (defBody s__law_filled) (defScope s__law_filled) .none kV__law_filled dc__law_filled pm__law_filled an__law_filled cd__law_filled ct__law_filled), sl__law_filled⟩) (c__law_filled : PySem.W.codeIn K cd__law_filled "_law_filled" = true) (k__law_filled : PySem.W.keepIn K (.ref f__law_filled) = true)
    {f__law_flat : Addr} {od__law_flat an__law_flat : Option Addr} {sl__law_flat : Array (Option Value)} {oc__law_flat kV__law_flat dc__law_flat pm__law_flat cd__law_flat ct__law_flat : Value}
    (a__law_flat : PySem.W.nsIn K mainGlobals "_law_flat" = some (some (.ref f__law_flat))) (l__law_flat : K.lookup f__law_flat = some ⟨oc__law_flat, od__law_flat, .func (PySem.W.fnOf "_law_flat" "_law_flat" (defArgs s__law_flat) (defBody s__law_flat) (defScope s__law_flat) .none kV__law_flat dc__law_flat pm__law_flat an__law_flat cd__law_flat ct__law_flat), sl__law_flat⟩) (c__law_flat : PySem.W.codeIn K cd__law_flat "_law_flat" = true) (k__law_flat : PySem.W.keepIn K (.ref f__law_flat) = true)
    {f__law_lines : Addr} {od__law_lines an__law_lines : Option Addr} {sl__law_lines : Array (Option Value)} {oc__law_lines kV__law_lines dc__law_lines pm__law_lines cd__law_lines ct__law_lines : Value}
    (a__law_lines : PySem.W.nsIn K mainGlobals "_law_lines" = some (some (.ref f__law_lines))) (l__law_lines : K.lookup f__law_lines = some ⟨oc__law_lines, od__law_lines, .func (PySem.W.fnOf "_law_lines" "_law_lines" (defArgs s__law_lines) (defBody s__law_lines) (defScope s__law_lines) .none kV__law_lines dc__law_lines pm__law_lines an__law_lines cd__law_lines ct__law_lines), sl__law_lines⟩) (c__law_lines : PySem.W.codeIn K cd__law_lines "_law_lines" = true) (k__law_lines : PySem.W.keepIn K (.ref f__law_lines) = true)
    {f_law : Addr} {od_law an_law : Option Addr} {sl_law : Array (Option Value)} {oc_law kV_law dc_law pm_law cd_law ct_law : Value}
    (a_law : PySem.W.nsIn K mainGlobals "law" = some (some (.ref f_law))) (l_law : K.lookup f_law = some ⟨oc_law, od_law, .func (PySem.W.fnOf "law" "law" (defArgs s_law) (defBody s_law) (defScope s_law) .none kV_law dc_law pm_law an_law cd_law ct_law), sl_law⟩) (c_law : PySem.W.codeIn K cd_law "law" = true) (k_law : PySem.W.keepIn K (.ref f_law) = true)
    (n_str : PySem.W.nsIn K mainGlobals "str" = some none)
    (n_int : PySem.W.nsIn K mainGlobals "int" = some none)
    (n_len : PySem.W.nsIn K mainGlobals "len" = some none)
    (n_isinstance : PySem.W.nsIn K mainGlobals "isinstance" = some none)
    (n_tuple : PySem.W.nsIn K mainGlobals "tuple" = some none)
    (n_list : PySem.W.nsIn K mainGlobals "list" = some none)
    (n_bool : PySem.W.nsIn K mainGlobals "bool" = some none)
    (n_range : PySem.W.nsIn K mainGlobals "range" = some none)
    (n_min : PySem.W.nsIn K mainGlobals "min" = some none)
    (n_sorted : PySem.W.nsIn K mainGlobals "sorted" = some none)
    {z_LAST : Tok} (m_LAST : PySem.W.nsIn K mainGlobals "LAST" = some (some (Value.int 8 z_LAST)))
    {a_LEVELS : Addr} {es_LEVELS : Array DictEntry} {n_LEVELS : Nat} (m_LEVELS : PySem.W.nsIn K mainGlobals "LEVELS" = some (some (.ref a_LEVELS))) (l_LEVELS : K.lookup a_LEVELS = some ⟨.type "dict", none, .dict es_LEVELS n_LEVELS, #[]⟩) (e_LEVELS : PySem.W.KeysLit w.params es_LEVELS.toList) (o_LEVELS : (a_LEVELS == sysModules) = false) (v_LEVELS : KeyVals es_LEVELS.toList kv_LEVELS)
    {z_LIKE : Tok} (m_LIKE : PySem.W.nsIn K mainGlobals "LIKE" = some (some (Value.int 4 z_LIKE)))
    {z_STEP : Tok} (m_STEP : PySem.W.nsIn K mainGlobals "STEP" = some (some (Value.str "  " z_STEP)))
    : ∃ fd : FuncData, (∀ (s : Shared) (v : Value), BindsTo s fd ⟨[v], []⟩ [("_law_script", v)]) ∧ ∀ base : Heap, K.In base → base.Ns mainGlobals mg → FnOk l.prog w K mg base CX0 50 fa fd ["_law_script"] (liftSp K spLaw) := by
  have e := hfa.symm.trans (PySem.W.mg_of X G a_law)
  cases e
  exact ⟨(PySem.W.fnOf "law" "law" (defArgs s_law) (defBody s_law) (defScope s_law) .none kV_law dc_law pm_law an_law cd_law ct_law), fun s v => .of_eq rfl, fun base _ _ => l_ok ({ f_worth_text := f_worth_text, d_worth_text := (PySem.W.fnOf "worth_text" "worth_text" (defArgs s_worth_text) (defBody s_worth_text) (defScope s_worth_text) .none kV_worth_text dc_worth_text pm_worth_text an_worth_text cd_worth_text ct_worth_text), t_worth_text := ⟨fun_mk (st := s_worth_text) l_worth_text c_worth_text k_worth_text, (fun_mk (st := s_worth_text) l_worth_text c_worth_text k_worth_text).binds (ps := ["e", "level"]) (fun _ _ _ _ _ _ us hl => match us, hl with | [_, _], _ => rfl), PySem.W.mg_of X G a_worth_text⟩, f_named_text := f_named_text, d_named_text := (PySem.W.fnOf "named_text" "named_text" (defArgs s_named_text) (defBody s_named_text) (defScope s_named_text) .none kV_named_text dc_named_text pm_named_text an_named_text cd_named_text ct_named_text), t_named_text := ⟨fun_mk (st := s_named_text) l_named_text c_named_text k_named_text, (fun_mk (st := s_named_text) l_named_text c_named_text k_named_text).binds (ps := ["e"]) (fun _ _ _ _ _ _ us hl => match us, hl with | [_], _ => rfl), PySem.W.mg_of X G a_named_text⟩, f_row_texts := f_row_texts, d_row_texts := (PySem.W.fnOf "row_texts" "row_texts" (defArgs s_row_texts) (defBody s_row_texts) (defScope s_row_texts) .none kV_row_texts dc_row_texts pm_row_texts an_row_texts cd_row_texts ct_row_texts), t_row_texts := ⟨fun_mk (st := s_row_texts) l_row_texts c_row_texts k_row_texts, (fun_mk (st := s_row_texts) l_row_texts c_row_texts k_row_texts).binds (ps := ["row", "ahead"]) (fun _ _ _ _ _ _ us hl => match us, hl with | [_, _], _ => rfl), PySem.W.mg_of X G a_row_texts⟩, f_block_texts := f_block_texts, d_block_texts := (PySem.W.fnOf "block_texts" "block_texts" (defArgs s_block_texts) (defBody s_block_texts) (defScope s_block_texts) .none kV_block_texts dc_block_texts pm_block_texts an_block_texts cd_block_texts ct_block_texts), t_block_texts := ⟨fun_mk (st := s_block_texts) l_block_texts c_block_texts k_block_texts, (fun_mk (st := s_block_texts) l_block_texts c_block_texts k_block_texts).binds (ps := ["rows", "ahead"]) (fun _ _ _ _ _ _ us hl => match us, hl with | [_, _], _ => rfl), PySem.W.mg_of X G a_block_texts⟩, f_told_texts := f_told_texts, d_told_texts := (PySem.W.fnOf "told_texts" "told_texts" (defArgs s_told_texts) (defBody s_told_texts) (defScope s_told_texts) .none kV_told_texts dc_told_texts pm_told_texts an_told_texts cd_told_texts ct_told_texts), t_told_texts := ⟨fun_mk (st := s_told_texts) l_told_texts c_told_texts k_told_texts, (fun_mk (st := s_told_texts) l_told_texts c_told_texts k_told_texts).binds (ps := ["one"]) (fun _ _ _ _ _ _ us hl => match us, hl with | [_], _ => rfl), PySem.W.mg_of X G a_told_texts⟩, f_text_of := f_text_of, d_text_of := (PySem.W.fnOf "text_of" "text_of" (defArgs s_text_of) (defBody s_text_of) (defScope s_text_of) .none kV_text_of dc_text_of pm_text_of an_text_of cd_text_of ct_text_of), t_text_of := ⟨fun_mk (st := s_text_of) l_text_of c_text_of k_text_of, (fun_mk (st := s_text_of) l_text_of c_text_of k_text_of).binds (ps := ["tree"]) (fun _ _ _ _ _ _ us hl => match us, hl with | [_], _ => rfl), PySem.W.mg_of X G a_text_of⟩, f__law_dice := f__law_dice, d__law_dice := (PySem.W.fnOf "_law_dice" "_law_dice" (defArgs s__law_dice) (defBody s__law_dice) (defScope s__law_dice) .none kV__law_dice dc__law_dice pm__law_dice an__law_dice cd__law_dice ct__law_dice), t__law_dice := ⟨fun_mk (st := s__law_dice) l__law_dice c__law_dice k__law_dice, (fun_mk (st := s__law_dice) l__law_dice c__law_dice k__law_dice).binds (ps := ["_law_script"]) (fun _ _ _ _ _ _ us hl => match us, hl with | [_], _ => rfl), PySem.W.mg_of X G a__law_dice⟩, f__law_next := f__law_next, d__law_next := (PySem.W.fnOf "_law_next" "_law_next" (defArgs s__law_next) (defBody s__law_next) (defScope s__law_next) .none kV__law_next dc__law_next pm__law_next an__law_next cd__law_next ct__law_next), t__law_next := ⟨fun_mk (st := s__law_next) l__law_next c__law_next k__law_next, (fun_mk (st := s__law_next) l__law_next c__law_next k__law_next).binds (ps := ["_law_dice_here", "_law_many"]) (fun _ _ _ _ _ _ us hl => match us, hl with | [_, _], _ => rfl), PySem.W.mg_of X G a__law_next⟩, f__law_like := f__law_like, d__law_like := (PySem.W.fnOf "_law_like" "_law_like" (defArgs s__law_like) (defBody s__law_like) (defScope s__law_like) .none kV__law_like dc__law_like pm__law_like an__law_like cd__law_like ct__law_like), t__law_like := ⟨fun_mk (st := s__law_like) l__law_like c__law_like k__law_like, (fun_mk (st := s__law_like) l__law_like c__law_like k__law_like).binds (ps := ["_law_found", "_law_due"]) (fun _ _ _ _ _ _ us hl => match us, hl with | [_, _], _ => rfl), PySem.W.mg_of X G a__law_like⟩, f__law_pick := f__law_pick, d__law_pick := (PySem.W.fnOf "_law_pick" "_law_pick" (defArgs s__law_pick) (defBody s__law_pick) (defScope s__law_pick) .none kV__law_pick dc__law_pick pm__law_pick an__law_pick cd__law_pick ct__law_pick), t__law_pick := ⟨fun_mk (st := s__law_pick) l__law_pick c__law_pick k__law_pick, (fun_mk (st := s__law_pick) l__law_pick c__law_pick k__law_pick).binds (ps := ["_law_d", "_law_some"]) (fun _ _ _ _ _ _ us hl => match us, hl with | [_, _], _ => rfl), PySem.W.mg_of X G a__law_pick⟩, f__law_word := f__law_word, d__law_word := (PySem.W.fnOf "_law_word" "_law_word" (defArgs s__law_word) (defBody s__law_word) (defScope s__law_word) .none kV__law_word dc__law_word pm__law_word an__law_word cd__law_word ct__law_word), t__law_word := ⟨fun_mk (st := s__law_word) l__law_word c__law_word k__law_word, (fun_mk (st := s__law_word) l__law_word c__law_word k__law_word).binds (ps := ["_law_d", "_law_used"]) (fun _ _ _ _ _ _ us hl => match us, hl with | [_, _], _ => rfl), PySem.W.mg_of X G a__law_word⟩, f__law_e := f__law_e, d__law_e := (PySem.W.fnOf "_law_e" "_law_e" (defArgs s__law_e) (defBody s__law_e) (defScope s__law_e) .none kV__law_e dc__law_e pm__law_e an__law_e cd__law_e ct__law_e), t__law_e := ⟨fun_mk (st := s__law_e) l__law_e c__law_e k__law_e, (fun_mk (st := s__law_e) l__law_e c__law_e k__law_e).binds (ps := ["_law_d", "_law_kind", "_law_c", "_law_deep"]) (fun _ _ _ _ _ _ us hl => match us, hl with | [_, _, _, _], _ => rfl), PySem.W.mg_of X G a__law_e⟩, f__law_rows := f__law_rows, d__law_rows := (PySem.W.fnOf "_law_rows" "_law_rows" (defArgs s__law_rows) (defBody s__law_rows) (defScope s__law_rows) .none kV__law_rows dc__law_rows pm__law_rows an__law_rows cd__law_rows ct__law_rows), t__law_rows := ⟨fun_mk (st := s__law_rows) l__law_rows c__law_rows k__law_rows, (fun_mk (st := s__law_rows) l__law_rows c__law_rows k__law_rows).binds (ps := ["_law_d", "_law_c", "_law_deep", "_law_many"]) (fun _ _ _ _ _ _ us hl => match us, hl with | [_, _, _, _], _ => rfl), PySem.W.mg_of X G a__law_rows⟩, f__law_one_row := f__law_one_row, d__law_one_row := (PySem.W.fnOf "_law_one_row" "_law_one_row" (defArgs s__law_one_row) (defBody s__law_one_row) (defScope s__law_one_row) .none kV__law_one_row dc__law_one_row pm__law_one_row an__law_one_row cd__law_one_row ct__law_one_row), t__law_one_row := ⟨fun_mk (st := s__law_one_row) l__law_one_row c__law_one_row k__law_one_row, (fun_mk (st := s__law_one_row) l__law_one_row c__law_one_row k__law_one_row).binds (ps := ["_law_d", "_law_c", "_law_deep"]) (fun _ _ _ _ _ _ us hl => match us, hl with | [_, _, _], _ => rfl), PySem.W.mg_of X G a__law_one_row⟩, f__law_house := f__law_house, d__law_house := (PySem.W.fnOf "_law_house" "_law_house" (defArgs s__law_house) (defBody s__law_house) (defScope s__law_house) .none kV__law_house dc__law_house pm__law_house an__law_house cd__law_house ct__law_house), t__law_house := ⟨fun_mk (st := s__law_house) l__law_house c__law_house k__law_house, (fun_mk (st := s__law_house) l__law_house c__law_house k__law_house).binds (ps := ["_law_d", "_law_many", "_law_size"]) (fun _ _ _ _ _ _ us hl => match us, hl with | [_, _, _], _ => rfl), PySem.W.mg_of X G a__law_house⟩, f__law_level := f__law_level, d__law_level := (PySem.W.fnOf "_law_level" "_law_level" (defArgs s__law_level) (defBody s__law_level) (defScope s__law_level) .none kV__law_level dc__law_level pm__law_level an__law_level cd__law_level ct__law_level), t__law_level := ⟨fun_mk (st := s__law_level) l__law_level c__law_level k__law_level, (fun_mk (st := s__law_level) l__law_level c__law_level k__law_level).binds (ps := ["_law_sign"]) (fun _ _ _ _ _ _ us hl => match us, hl with | [_], _ => rfl), PySem.W.mg_of X G a__law_level⟩, f__law_filled := f__law_filled, d__law_filled := (PySem.W.fnOf "_law_filled" "_law_filled" (defArgs s__law_filled) (defBody s__law_filled) (defScope s__law_filled) .none kV__law_filled dc__law_filled pm__law_filled an__law_filled cd__law_filled ct__law_filled), t__law_filled := ⟨fun_mk (st := s__law_filled) l__law_filled c__law_filled k__law_filled, (fun_mk (st := s__law_filled) l__law_filled c__law_filled k__law_filled).binds (ps := ["_law_d", "_law_plan", "_law_all_told", "_law_used"]) (fun _ _ _ _ _ _ us hl => match us, hl with | [_, _, _, _], _ => rfl), PySem.W.mg_of X G a__law_filled⟩, f__law_flat := f__law_flat, d__law_flat := (PySem.W.fnOf "_law_flat" "_law_flat" (defArgs s__law_flat) (defBody s__law_flat) (defScope s__law_flat) .none kV__law_flat dc__law_flat pm__law_flat an__law_flat cd__law_flat ct__law_flat), t__law_flat := ⟨fun_mk (st := s__law_flat) l__law_flat c__law_flat k__law_flat, (fun_mk (st := s__law_flat) l__law_flat c__law_flat k__law_flat).binds (ps := ["_law_e_here", "_law_level_here"]) (fun _ _ _ _ _ _ us hl => match us, hl with | [_, _], _ => rfl), PySem.W.mg_of X G a__law_flat⟩, f__law_lines := f__law_lines, d__law_lines := (PySem.W.fnOf "_law_lines" "_law_lines" (defArgs s__law_lines) (defBody s__law_lines) (defScope s__law_lines) .none kV__law_lines dc__law_lines pm__law_lines an__law_lines cd__law_lines ct__law_lines), t__law_lines := ⟨fun_mk (st := s__law_lines) l__law_lines c__law_lines k__law_lines, (fun_mk (st := s__law_lines) l__law_lines c__law_lines k__law_lines).binds (ps := ["_law_rows_here", "_law_ahead"]) (fun _ _ _ _ _ _ us hl => match us, hl with | [_, _], _ => rfl), PySem.W.mg_of X G a__law_lines⟩, f_law := fa, d_law := (PySem.W.fnOf "law" "law" (defArgs s_law) (defBody s_law) (defScope s_law) .none kV_law dc_law pm_law an_law cd_law ct_law), t_law := ⟨fun_mk (st := s_law) l_law c_law k_law, (fun_mk (st := s_law) l_law c_law k_law).binds (ps := ["_law_script"]) (fun _ _ _ _ _ _ us hl => match us, hl with | [_], _ => rfl), PySem.W.mg_of X G a_law⟩, n_str := PySem.W.mg_none_of X G n_str, n_int := PySem.W.mg_none_of X G n_int, n_len := PySem.W.mg_none_of X G n_len, n_isinstance := PySem.W.mg_none_of X G n_isinstance, n_tuple := PySem.W.mg_none_of X G n_tuple, n_list := PySem.W.mg_none_of X G n_list, n_bool := PySem.W.mg_none_of X G n_bool, n_range := PySem.W.mg_none_of X G n_range, n_min := PySem.W.mg_none_of X G n_min, n_sorted := PySem.W.mg_none_of X G n_sorted, z_LAST := z_LAST, m_LAST := PySem.W.mg_of X G m_LAST, a_LEVELS := a_LEVELS, m_LEVELS := PySem.W.mg_of X G m_LEVELS, k_LEVELS := ⟨es_LEVELS, n_LEVELS, ⟨l_LEVELS, e_LEVELS, o_LEVELS⟩, v_LEVELS⟩, z_LIKE := z_LIKE, m_LIKE := PySem.W.mg_of X G m_LIKE, z_STEP := z_STEP, m_STEP := PySem.W.mg_of X G m_STEP } : Tx K w mg)⟩
end W1
open PySem PySem.W PyProof.Rows
set_option maxRecDepth 100000 in
set_option maxHeartbeats 0 in
theorem PySem.Challenge.cw_wholetongue_k06_trees_written_one_way_holds : PySem.Challenge.rw_wholetongue_k06_trees_written_one_way.Holds := by
  w_on; o_law; k_head; (case hw => w_witness2)
  k_fill
  refine DL.walk (k := 50) (l := PySem.Challenge.rw_wholetongue_k06_trees_written_one_way) (by decide) rfl rfl (fun w h Y => PySem.W.kIn_of Y) ?F
  case F =>
    intro w mg fa h KX G hmg
    refine' W1.all_mk KX G hmg ?a_worth_text ?l_worth_text ?c_worth_text ?k_worth_text ?a_named_text ?l_named_text ?c_named_text ?k_named_text ?a_row_texts ?l_row_texts ?c_row_texts ?k_row_texts ?a_block_texts ?l_block_texts ?c_block_texts ?k_block_texts ?a_told_texts ?l_told_texts ?c_told_texts ?k_told_texts ?a_text_of ?l_text_of ?c_text_of ?k_text_of ?a__law_dice ?l__law_dice ?c__law_dice ?k__law_dice ?a__law_next ?l__law_next ?c__law_next ?k__law_next ?a__law_like ?l__law_like ?c__law_like ?k__law_like ?a__law_pick ?l__law_pick ?c__law_pick ?k__law_pick ?a__law_word ?l__law_word ?c__law_word ?k__law_word ?a__law_e ?l__law_e ?c__law_e ?k__law_e ?a__law_rows ?l__law_rows ?c__law_rows ?k__law_rows ?a__law_one_row ?l__law_one_row ?c__law_one_row ?k__law_one_row ?a__law_house ?l__law_house ?c__law_house ?k__law_house ?a__law_level ?l__law_level ?c__law_level ?k__law_level ?a__law_filled ?l__law_filled ?c__law_filled ?k__law_filled ?a__law_flat ?l__law_flat ?c__law_flat ?k__law_flat ?a__law_lines ?l__law_lines ?c__law_lines ?k__law_lines ?a_law ?l_law ?c_law ?k_law ?n_str ?n_int ?n_len ?n_isinstance ?n_tuple ?n_list ?n_bool ?n_range ?n_min ?n_sorted ?m_LAST ?m_LEVELS ?l_LEVELS ?e_LEVELS ?o_LEVELS ?v_LEVELS ?m_LIKE ?m_STEP
    (case a_worth_text => k_is)
    (case l_worth_text => k_is)
    (case c_worth_text => k_is)
    (case k_worth_text => k_is)
    (case a_named_text => k_is)
    (case l_named_text => k_is)
    (case c_named_text => k_is)
    (case k_named_text => k_is)
    (case a_row_texts => k_is)
    (case l_row_texts => k_is)
    (case c_row_texts => k_is)
    (case k_row_texts => k_is)
    (case a_block_texts => k_is)
    (case l_block_texts => k_is)
    (case c_block_texts => k_is)
    (case k_block_texts => k_is)
    (case a_told_texts => k_is)
    (case l_told_texts => k_is)
    (case c_told_texts => k_is)
    (case k_told_texts => k_is)
    (case a_text_of => k_is)
    (case l_text_of => k_is)
    (case c_text_of => k_is)
    (case k_text_of => k_is)
    (case a__law_dice => k_is)
    (case l__law_dice => k_is)
    (case c__law_dice => k_is)
    (case k__law_dice => k_is)
    (case a__law_next => k_is)
    (case l__law_next => k_is)
    (case c__law_next => k_is)
    (case k__law_next => k_is)
    (case a__law_like => k_is)
    (case l__law_like => k_is)
    (case c__law_like => k_is)
    (case k__law_like => k_is)
    (case a__law_pick => k_is)
    (case l__law_pick => k_is)
    (case c__law_pick => k_is)
    (case k__law_pick => k_is)
    (case a__law_word => k_is)
    (case l__law_word => k_is)
    (case c__law_word => k_is)
    (case k__law_word => k_is)
    (case a__law_e => k_is)
    (case l__law_e => k_is)
    (case c__law_e => k_is)
    (case k__law_e => k_is)
    (case a__law_rows => k_is)
    (case l__law_rows => k_is)
    (case c__law_rows => k_is)
    (case k__law_rows => k_is)
    (case a__law_one_row => k_is)
    (case l__law_one_row => k_is)
    (case c__law_one_row => k_is)
    (case k__law_one_row => k_is)
    (case a__law_house => k_is)
    (case l__law_house => k_is)
    (case c__law_house => k_is)
    (case k__law_house => k_is)
    (case a__law_level => k_is)
    (case l__law_level => k_is)
    (case c__law_level => k_is)
    (case k__law_level => k_is)
    (case a__law_filled => k_is)
    (case l__law_filled => k_is)
    (case c__law_filled => k_is)
    (case k__law_filled => k_is)
    (case a__law_flat => k_is)
    (case l__law_flat => k_is)
    (case c__law_flat => k_is)
    (case k__law_flat => k_is)
    (case a__law_lines => k_is)
    (case l__law_lines => k_is)
    (case c__law_lines => k_is)
    (case k__law_lines => k_is)
    (case a_law => k_is)
    (case l_law => k_is)
    (case c_law => k_is)
    (case k_law => k_is)
    (case n_str => k_is)
    (case n_int => k_is)
    (case n_len => k_is)
    (case n_isinstance => k_is)
    (case n_tuple => k_is)
    (case n_list => k_is)
    (case n_bool => k_is)
    (case n_range => k_is)
    (case n_min => k_is)
    (case n_sorted => k_is)
    (case m_LAST => k_is)
    (case m_LEVELS => k_is)
    (case l_LEVELS => k_is)
    (case e_LEVELS => k_keys)
    (case o_LEVELS => decide)
    (case v_LEVELS => exact ⟨⟨⟨_, rfl⟩, L2.V.int 1, ⟨_, rfl⟩, fun _ _ => DL.Rep.int _⟩, ⟨⟨⟨_, rfl⟩, L2.V.int 2, ⟨_, rfl⟩, fun _ _ => DL.Rep.int _⟩, ⟨⟨⟨_, rfl⟩, L2.V.int 3, ⟨_, rfl⟩, fun _ _ => DL.Rep.int _⟩, ⟨⟨⟨_, rfl⟩, L2.V.int 4, ⟨_, rfl⟩, fun _ _ => DL.Rep.int _⟩, ⟨⟨⟨_, rfl⟩, L2.V.int 4, ⟨_, rfl⟩, fun _ _ => DL.Rep.int _⟩, ⟨⟨⟨_, rfl⟩, L2.V.int 4, ⟨_, rfl⟩, fun _ _ => DL.Rep.int _⟩, ⟨⟨⟨_, rfl⟩, L2.V.int 4, ⟨_, rfl⟩, fun _ _ => DL.Rep.int _⟩, ⟨⟨⟨_, rfl⟩, L2.V.int 5, ⟨_, rfl⟩, fun _ _ => DL.Rep.int _⟩, ⟨⟨⟨_, rfl⟩, L2.V.int 5, ⟨_, rfl⟩, fun _ _ => DL.Rep.int _⟩, ⟨⟨⟨_, rfl⟩, L2.V.int 6, ⟨_, rfl⟩, fun _ _ => DL.Rep.int _⟩, ⟨⟨⟨_, rfl⟩, L2.V.int 6, ⟨_, rfl⟩, fun _ _ => DL.Rep.int _⟩, ⟨⟨⟨_, rfl⟩, L2.V.int 6, ⟨_, rfl⟩, fun _ _ => DL.Rep.int _⟩, ⟨⟨⟨_, rfl⟩, L2.V.int 7, ⟨_, rfl⟩, fun _ _ => DL.Rep.int _⟩, trivial⟩⟩⟩⟩⟩⟩⟩⟩⟩⟩⟩⟩⟩)
    (case m_LIKE => k_is)
    (case m_STEP => k_is)

