import PyProof.Rows.All
import Wide.All
import OpenK.AllK
import Wide.FinOn
import HandS.ForMost
import HandS.TupAny
import HandS.More
import HandS.IsInst
import HandS.TryOnly
import HandS.WordsExc
import PySem.Challenge.RW_wholetongue_k01_words_told
set_option Elab.async false
set_option linter.all false
set_option maxRecDepth 100000
/-! DBase: values as pure data over a frozen part of the abstract heap, and cells that are owned. Readings without addresses for data. -/
namespace DL
open PySem PySem.Spec PyProof.Rows L2

/-- data -/
inductive DV where
  | non | bl (b : Bool) | int (i : Int) | str (x : Str)
  | tup (xs : List DV) | lst (xs : List DV) | slst (xs : List DV) | stup (xs : List DV)
  | dK (kvs : List (Key × DV)) | dT (kvs : List (List Key × DV))
  | ref (a : Addr) | ty (n : String)

def Sub (F F' : Hp) : Prop := ∀ a o, F a = some o → F' a = some o
theorem Sub.refl (F : Hp) : Sub F F := fun _ _ h => h
theorem Sub.trans {F G H : Hp} (a : Sub F G) (b : Sub G H) : Sub F H := fun x o h => b x o (a x o h)
theorem Sub.upd {F : Hp} {p : Addr} {o : HO} (h : F p = none) : Sub F (upd F p o) := fun a u e => by
  rw [upd_ne (fun z => by subst z; rw [h] at e; cases e)]; exact e

theorem SqL.sub {K : PySem.W.Frag} {F F' : Hp} {a : Addr} {xs : List V} (s : Sub F F') (h : SqL K F a xs) : SqL K F' a xs := by
  rcases h with (h | ⟨o, h⟩) | h
  · exact .inl (.inl (s _ _ h))
  · exact .inl (.inr ⟨o, s _ _ h⟩)
  · exact .inr h
theorem SqT.sub {K : PySem.W.Frag} {F F' : Hp} {a : Addr} {xs : List V} (s : Sub F F') (h : SqT K F a xs) : SqT K F' a xs := by
  rcases h with (h | ⟨o, h⟩) | h
  · exact .inl (.inl (s _ _ h))
  · exact .inl (.inr ⟨o, s _ _ h⟩)
  · exact .inr h

mutual
inductive Rep (K : PySem.W.Frag) (F : Hp) : V → DV → Prop
  | non : Rep K F .non .non
  | bl (b : Bool) : Rep K F (.bl b) (.bl b)
  | int (i : Int) : Rep K F (.int i) (.int i)
  | str (x : Str) : Rep K F (.str x) (.str x)
  | ref (a : Addr) : Rep K F (.ref a) (.ref a)
  | ty (n : String) : Rep K F (.ty n) (.ty n)
  | tup {a : Addr} {vs : List V} {ds : List DV} : F a = some (.tup vs) → Reps K F vs ds → Rep K F (.ref a) (.tup ds)
  | stup {a : Addr} {vs : List V} {ds : List DV} : SqT K F a vs → Reps K F vs ds → Rep K F (.ref a) (.stup ds)
  | lst {a : Addr} {vs : List V} {ds : List DV} : F a = some (.lst vs) → Reps K F vs ds → Rep K F (.ref a) (.lst ds)
  | slst {a : Addr} {vs : List V} {ds : List DV} : SqL K F a vs → Reps K F vs ds → Rep K F (.ref a) (.slst ds)
  | dK {a : Addr} {kvs : List (Key × V)} {es : List (Key × DV)} : F a = some (.dK kvs) → RepK K F kvs es → Rep K F (.ref a) (.dK es)
  | dT {a : Addr} {kvs : List (List Key × V)} {es : List (List Key × DV)} : F a = some (.dT kvs) → RepT K F kvs es → Rep K F (.ref a) (.dT es)
inductive Reps (K : PySem.W.Frag) (F : Hp) : List V → List DV → Prop
  | nil : Reps K F [] []
  | cons {v : V} {d : DV} {vs : List V} {ds : List DV} : Rep K F v d → Reps K F vs ds → Reps K F (v :: vs) (d :: ds)
inductive RepK (K : PySem.W.Frag) (F : Hp) : List (Key × V) → List (Key × DV) → Prop
  | nil : RepK K F [] []
  | cons {k : Key} {v : V} {d : DV} {vs : List (Key × V)} {ds : List (Key × DV)} : Rep K F v d → RepK K F vs ds → RepK K F ((k, v) :: vs) ((k, d) :: ds)
inductive RepT (K : PySem.W.Frag) (F : Hp) : List (List Key × V) → List (List Key × DV) → Prop
  | nil : RepT K F [] []
  | cons {k : List Key} {v : V} {d : DV} {vs : List (List Key × V)} {ds : List (List Key × DV)} : Rep K F v d → RepT K F vs ds → RepT K F ((k, v) :: vs) ((k, d) :: ds)
end

section
variable {K : PySem.W.Frag} {F F' : Hp}
mutual
theorem Rep.mono (s : Sub F F') : ∀ {v : V} {d : DV}, Rep K F v d → Rep K F' v d
  | _, _, .non => .non
  | _, _, .bl b => .bl b
  | _, _, .int b => .int b
  | _, _, .str b => .str b
  | _, _, .ref b => .ref b
  | _, _, .ty b => .ty b
  | _, _, .tup h r => .tup (s _ _ h) (Reps.mono s r)
  | _, _, .stup h r => .stup (SqT.sub s h) (Reps.mono s r)
  | _, _, .lst h r => .lst (s _ _ h) (Reps.mono s r)
  | _, _, .slst h r => .slst (SqL.sub s h) (Reps.mono s r)
  | _, _, .dK h r => .dK (s _ _ h) (RepK.mono s r)
  | _, _, .dT h r => .dT (s _ _ h) (RepT.mono s r)
theorem Reps.mono (s : Sub F F') : ∀ {v : List V} {d : List DV}, Reps K F v d → Reps K F' v d
  | _, _, .nil => .nil
  | _, _, .cons h r => .cons (Rep.mono s h) (Reps.mono s r)
theorem RepK.mono (s : Sub F F') : ∀ {v : List (Key × V)} {d : List (Key × DV)}, RepK K F v d → RepK K F' v d
  | _, _, .nil => .nil
  | _, _, .cons h r => .cons (Rep.mono s h) (RepK.mono s r)
theorem RepT.mono (s : Sub F F') : ∀ {v : List (List Key × V)} {d : List (List Key × DV)}, RepT K F v d → RepT K F' v d
  | _, _, .nil => .nil
  | _, _, .cons h r => .cons (Rep.mono s h) (RepT.mono s r)
end
theorem Reps.len : ∀ {vs : List V} {ds : List DV}, Reps K F vs ds → vs.length = ds.length
  | _, _, .nil => rfl
  | _, _, .cons _ r => by simp [Reps.len r]
theorem Reps.get : ∀ {vs : List V} {ds : List DV} {i : Nat} {d : DV}, Reps K F vs ds → ds[i]? = some d → ∃ v, vs[i]? = some v ∧ Rep K F v d
  | _, _, _, _, .nil, e => by simp at e
  | _, _, 0, _, .cons h _, e => by simp at e; subst e; exact ⟨_, rfl, h⟩
  | _, _, i + 1, d, .cons _ r, e => by
    obtain ⟨v, h1, h2⟩ := Reps.get (i := i) (d := d) r (by simpa using e)
    exact ⟨v, by simpa using h1, h2⟩
theorem Reps.get' : ∀ {vs : List V} {ds : List DV} {i : Nat} {v : V}, Reps K F vs ds → vs[i]? = some v → ∃ d, ds[i]? = some d ∧ Rep K F v d
  | _, _, _, _, .nil, e => by simp at e
  | _, _, 0, _, .cons h _, e => by simp at e; subst e; exact ⟨_, rfl, h⟩
  | _, _, i + 1, d, .cons _ r, e => by
    obtain ⟨v, h1, h2⟩ := Reps.get' (i := i) (v := d) r (by simpa using e)
    exact ⟨v, by simpa using h1, h2⟩
theorem Reps.append : ∀ {vs ws : List V} {ds es : List DV}, Reps K F vs ds → Reps K F ws es → Reps K F (vs ++ ws) (ds ++ es)
  | _, _, _, _, .nil, h => h
  | _, _, _, _, .cons h r, q => .cons h (Reps.append r q)
theorem Reps.take : ∀ {vs : List V} {ds : List DV} (n : Nat), Reps K F vs ds → Reps K F (vs.take n) (ds.take n)
  | _, _, 0, _ => .nil
  | _, _, _ + 1, .nil => .nil
  | _, _, n + 1, .cons h r => .cons h (Reps.take n r)
theorem Reps.drop : ∀ {vs : List V} {ds : List DV} (n : Nat), Reps K F vs ds → Reps K F (vs.drop n) (ds.drop n)
  | _, _, 0, r => r
  | _, _, _ + 1, .nil => .nil
  | _, _, n + 1, .cons _ r => Reps.drop n r
theorem Reps.set {v : V} {d : DV} (h : Rep K F v d) : ∀ {vs : List V} {ds : List DV} (i : Nat), Reps K F vs ds → Reps K F (vs.set i v) (ds.set i d)
  | _, _, _, .nil => .nil
  | _, _, 0, .cons _ r => .cons h r
  | _, _, i + 1, .cons q r => .cons q (Reps.set h i r)
theorem Reps.strs : ∀ {vs : List V} {ys : List Str}, Reps K F vs (ys.map DV.str) → vs = ys.map V.str
  | _, [], .nil => rfl
  | _, y :: ys, .cons h r => by cases h; simp [Reps.strs r]
theorem Reps.of_strs : ∀ (ys : List Str), Reps K F (ys.map V.str) (ys.map DV.str)
  | [] => .nil
  | y :: ys => .cons (.str y) (Reps.of_strs ys)
theorem Reps.ints : ∀ {vs : List V} {ys : List Int}, Reps K F vs (ys.map DV.int) → vs = ys.map V.int
  | _, [], .nil => rfl
  | _, y :: ys, .cons h r => by cases h; simp [Reps.ints r]
theorem Reps.of_ints : ∀ (ys : List Int), Reps K F (ys.map V.int) (ys.map DV.int)
  | [] => .nil
  | y :: ys => .cons (.int y) (Reps.of_ints ys)
theorem Reps.flatten {vs : List V} {ds : List DV} (r : Reps K F vs ds) : ∀ n : Nat, Reps K F (List.replicate n vs).flatten (List.replicate n ds).flatten
  | 0 => .nil
  | n + 1 => by
    rw [List.replicate_succ, List.replicate_succ, List.flatten_cons, List.flatten_cons]
    exact r.append (Reps.flatten r n)
end

/-- what is owned at an address -/
inductive Cell where
  | lst (xs : List DV) | dK (kvs : List (Key × DV)) | dT (kvs : List (List Key × DV)) | ins (C : Addr) (fs : List (Str × DV))
abbrev Own := Addr → Option Cell
def oset (O : Own) (a : Addr) (c : Cell) : Own := fun b => if b = a then some c else O b
def odel (O : Own) (a : Addr) : Own := fun b => if b = a then none else O b
theorem oset_same {O : Own} {a : Addr} {c : Cell} : oset O a c a = some c := by unfold oset; rw [if_pos rfl]
theorem oset_ne {O : Own} {a b : Addr} {c : Cell} (h : b ≠ a) : oset O a c b = O b := by unfold oset; rw [if_neg h]
theorem oset_oset {O : Own} {a : Addr} {c c' : Cell} : oset (oset O a c) a c' = oset O a c' := by
  funext b; unfold oset; split <;> rfl
theorem oset_none {O : Own} {a b : Addr} {c : Cell} : oset O a c b = none ↔ b ≠ a ∧ O b = none := by
  unfold oset; split
  · simp_all
  · simp_all
theorem one_ne {O : Own} {a p : Addr} {c : Cell} (h : O p = none) (e : O a = some c) : a ≠ p := by
  intro z; subst z; rw [h] at e; cases e
theorem odel_same {O : Own} {a : Addr} : odel O a a = none := by unfold odel; rw [if_pos rfl]
theorem odel_ne {O : Own} {a b : Addr} (h : b ≠ a) : odel O a b = O b := by unfold odel; rw [if_neg h]
theorem odel_oset {O : Own} {a : Addr} {c : Cell} (h : O a = none) : odel (oset O a c) a = O := by
  funext b; unfold oset odel
  by_cases e : b = a
  · subst e; simp [h]
  · simp [e]
theorem oset_comm {O : Own} {a b : Addr} {c c' : Cell} (h : a ≠ b) : oset (oset O a c) b c' = oset (oset O b c') a c := by
  funext x; unfold oset
  by_cases e : x = b
  · subst e; simp [Ne.symm h]
  · simp [e]
theorem odel_oset_ne {O : Own} {a b : Addr} {c : Cell} (h : a ≠ b) : odel (oset O a c) b = oset (odel O b) a c := by
  funext x; unfold oset odel
  by_cases e : x = b
  · subst e; simp [Ne.symm h]
  · simp [e]

def RepF (K : PySem.W.Frag) (F : Hp) : List (Str × V) → List (Str × DV) → Prop := Paired fun p q => p.1 = q.1 ∧ Rep K F p.2 q.2
theorem RepF.mono {K : PySem.W.Frag} {F F' : Hp} (s : Sub F F') : ∀ {x : List (Str × V)} {y : List (Str × DV)}, RepF K F x y → RepF K F' x y
  | _, _, .nil => .nil
  | _, _, .cons h r => .cons ⟨h.1, h.2.mono s⟩ (RepF.mono s r)

def CellAt (K : PySem.W.Frag) (F H : Hp) (a : Addr) : Cell → Prop
  | .lst ds => ∃ vs, H a = some (.lst vs) ∧ Reps K F vs ds
  | .dK es => ∃ kvs, H a = some (.dK kvs) ∧ RepK K F kvs es
  | .dT es => ∃ kvs, H a = some (.dT kvs) ∧ RepT K F kvs es
  | .ins C fs => ∃ dx fvs, H a = some (.ins C dx fvs) ∧ RepF K F fvs fs
theorem CellAt.mono {K : PySem.W.Frag} {F F' H H' : Hp} {a : Addr} {c : Cell} (s : Sub F F') (e : H' a = H a) (h : CellAt K F H a c) : CellAt K F' H' a c := by
  cases c with
  | lst ds => obtain ⟨vs, h1, h2⟩ := h; exact ⟨vs, e.trans h1, h2.mono s⟩
  | dK ds => obtain ⟨vs, h1, h2⟩ := h; exact ⟨vs, e.trans h1, h2.mono s⟩
  | dT ds => obtain ⟨vs, h1, h2⟩ := h; exact ⟨vs, e.trans h1, h2.mono s⟩
  | ins C ds => obtain ⟨dx, vs, h1, h2⟩ := h; exact ⟨dx, vs, e.trans h1, h2.mono s⟩
theorem CellAt.some {K : PySem.W.Frag} {F H : Hp} {a : Addr} {c : Cell} (h : CellAt K F H a c) : ∃ o, H a = some o := by
  cases c with
  | lst ds => obtain ⟨vs, h1, h2⟩ := h; exact ⟨_, h1⟩
  | dK ds => obtain ⟨vs, h1, h2⟩ := h; exact ⟨_, h1⟩
  | dT ds => obtain ⟨vs, h1, h2⟩ := h; exact ⟨_, h1⟩
  | ins C ds => obtain ⟨dx, vs, h1, h2⟩ := h; exact ⟨_, h1⟩

/-- a dict may be locked -/
def Lk : HO → Prop
  | .dK _ => True
  | .dT _ => True
  | _ => False
/-- H is made of the frozen F and the owned O -/
structure RS (K : PySem.W.Frag) (F : Hp) (O : Own) (H : Hp) : Prop where
  fro : ∀ a o, F a = some o → H a = some o ∨ (Lk o ∧ ∃ ob, H a = some (.frz ob o))
  own : ∀ a c, O a = some c → F a = none ∧ CellAt K F H a c
section
variable {K : PySem.W.Frag} {F F' H H' : Hp} {O : Own} {a p : Addr} {c : Cell}
theorem RS.plain (r : RS K F O H) {o : HO} (e : F a = some o) (n : ¬ Lk o) : H a = some o := by
  rcases r.fro a o e with h | ⟨h, _⟩
  · exact h
  · exact absurd h n
theorem RS.lst (r : RS K F O H) {vs : List V} (e : F a = some (.lst vs)) : H a = some (.lst vs) := r.plain e (fun z => z)
theorem RS.tup (r : RS K F O H) {vs : List V} (e : F a = some (.tup vs)) : H a = some (.tup vs) := r.plain e (fun z => z)
theorem RS.sqT (r : RS K F O H) {vs : List V} (h : SqT K F a vs) : SqT K H a vs := by
  rcases h with (h | ⟨o, h⟩) | h
  · exact .inl (.inl (r.plain h (fun z => z)))
  · exact .inl (.inr ⟨o, r.plain h (fun z => z)⟩)
  · exact .inr h
theorem RS.sqL (r : RS K F O H) {vs : List V} (h : SqL K F a vs) : SqL K H a vs := by
  rcases h with (h | ⟨o, h⟩) | h
  · exact .inl (.inl (r.plain h (fun z => z)))
  · exact .inl (.inr ⟨o, r.plain h (fun z => z)⟩)
  · exact .inr h
theorem RS.free (r : RS K F O H) (h : H p = none) : F p = none ∧ O p = none := by
  constructor
  · cases e : F p with
    | none => rfl
    | some o =>
      rcases r.fro p o e with z | ⟨_, ob, z⟩ <;> rw [h] at z <;> cases z
  · cases e : O p with
    | none => rfl
    | some c =>
      obtain ⟨o, z⟩ := (r.own p c e).2.some
      rw [h] at z; cases z
/-- from one state to another: the frozen part grows, what is not owned stays -/
structure Stp (K : PySem.W.Frag) (F : Hp) (O : Own) (H F' : Hp) (O' : Own) (H' : Hp) : Prop where
  sub : Sub F F'
  rs : RS K F' O' H'
  keep : ∀ a o, H a = some o → O a = none → H' a = some o ∧ O' a = none
  nof : ∀ a o, H a = some o → O a = none → F a = none → F' a = none
theorem Stp.refl (r : RS K F O H) : Stp K F O H F O H := ⟨Sub.refl _, r, fun _ _ h1 h2 => ⟨h1, h2⟩, fun _ _ _ _ h => h⟩
theorem Stp.trans {F1 H1 F2 H2 : Hp} {O1 O2 : Own} (s : Stp K F O H F1 O1 H1) (t : Stp K F1 O1 H1 F2 O2 H2) : Stp K F O H F2 O2 H2 :=
  ⟨s.sub.trans t.sub, t.rs, fun a o h1 h2 => let ⟨h3, h4⟩ := s.keep a o h1 h2; t.keep a o h3 h4, fun a o h1 h2 h3 => let ⟨h4, h5⟩ := s.keep a o h1 h2; t.nof a o h4 h5 (s.nof a o h1 h2 h3)⟩
/-- a new frozen thing -/
theorem RS.new (r : RS K F O H) (h : H p = none) (o : HO) : Stp K F O H (upd F p o) O (upd H p o) := by
  obtain ⟨hf, ho⟩ := r.free h
  refine ⟨Sub.upd hf, ⟨fun b u e => ?_, fun b c e => ?_⟩, fun b u h1 h2 => ⟨by rw [upd_ne (fun z => by subst z; rw [h] at h1; cases h1)]; exact h1, h2⟩, fun b u h1 h2 h3 => by rw [upd_ne (fun z => by subst z; rw [h] at h1; cases h1)]; exact h3⟩
  · by_cases hb : b = p
    · subst hb; rw [upd_same] at e ⊢; exact .inl e
    · rw [upd_ne hb] at e; rw [upd_ne hb]; exact r.fro b u e
  · have hb : b ≠ p := one_ne ho e
    obtain ⟨h1, h2⟩ := r.own b c e
    exact ⟨by rw [upd_ne hb]; exact h1, h2.mono (Sub.upd hf) (upd_ne hb)⟩
/-- a new owned thing -/
theorem RS.newO (r : RS K F O H) (h : H p = none) {o : HO} (hc : CellAt K F (upd H p o) p c) : Stp K F O H F (oset O p c) (upd H p o) := by
  obtain ⟨hf, ho⟩ := r.free h
  refine ⟨Sub.refl _, ⟨fun b u e => ?_, fun b c e => ?_⟩, fun b u h1 h2 => ?_, fun _ _ _ _ h => h⟩
  · have hb : b ≠ p := fun z => by subst z; rw [hf] at e; cases e
    rw [upd_ne hb]; exact r.fro b u e
  · by_cases hb : b = p
    · subst hb; rw [oset_same] at e; cases e; exact ⟨hf, hc⟩
    · rw [oset_ne hb] at e
      obtain ⟨h1, h2⟩ := r.own b c e
      exact ⟨h1, h2.mono (Sub.refl _) (upd_ne hb)⟩
  · have hb : b ≠ p := fun z => by subst z; rw [h] at h1; cases h1
    exact ⟨by rw [upd_ne hb]; exact h1, by rw [oset_ne hb]; exact h2⟩
/-- an owned thing is written -/
theorem RS.write (r : RS K F O H) {c' : Cell} (h : O p = some c') {o : HO} (hc : CellAt K F (upd H p o) p c) : Stp K F O H F (oset O p c) (upd H p o) := by
  obtain ⟨hf, _⟩ := r.own p c' h
  refine ⟨Sub.refl _, ⟨fun b u e => ?_, fun b c e => ?_⟩, fun b u h1 h2 => ?_, fun _ _ _ _ h => h⟩
  · have hb : b ≠ p := fun z => by subst z; rw [hf] at e; cases e
    rw [upd_ne hb]; exact r.fro b u e
  · by_cases hb : b = p
    · subst hb; rw [oset_same] at e; cases e; exact ⟨hf, hc⟩
    · rw [oset_ne hb] at e
      obtain ⟨h1, h2⟩ := r.own b c e
      exact ⟨h1, h2.mono (Sub.refl _) (upd_ne hb)⟩
  · have hb : b ≠ p := fun z => by subst z; rw [h] at h2; cases h2
    exact ⟨by rw [upd_ne hb]; exact h1, by rw [oset_ne hb]; exact h2⟩
theorem RS.freeze (r : RS K F O H) {o : HO} (h : O p = some c) (h1 : H p = some o) : Stp K F O H (upd F p o) (odel O p) H := by
  obtain ⟨hf, _⟩ := r.own p _ h
  refine ⟨Sub.upd hf, ⟨fun b u e => ?_, fun b c e => ?_⟩, fun b u h1 h2 => ⟨h1, ?_⟩, fun b u h1 h2 h3 => by rw [upd_ne (fun z => by subst z; rw [h] at h2; cases h2)]; exact h3⟩
  · by_cases hb : b = p
    · subst hb; rw [upd_same] at e; cases e; exact .inl h1
    · rw [upd_ne hb] at e; exact r.fro b u e
  · have hb : b ≠ p := fun z => by subst z; rw [odel_same] at e; cases e
    rw [odel_ne hb] at e
    obtain ⟨h3, h4⟩ := r.own b c e
    exact ⟨by rw [upd_ne hb]; exact h3, h4.mono (Sub.upd hf) rfl⟩
  · by_cases hb : b = p
    · subst hb; exact odel_same
    · rw [odel_ne hb]; exact h2
/-- what is owned is let go: it is frozen from here on -/
theorem RS.freezeL (r : RS K F O H) {ds : List DV} (h : O p = some (.lst ds)) : ∃ F', Stp K F O H F' (odel O p) H ∧ Rep K F' (.ref p) (.lst ds) := by
  obtain ⟨hf, vs, h1, h2⟩ := r.own p _ h
  exact ⟨_, r.freeze h h1, .lst upd_same (h2.mono (Sub.upd hf))⟩
theorem RS.freezeK (r : RS K F O H) {ds : List (Key × DV)} (h : O p = some (.dK ds)) : ∃ F', Stp K F O H F' (odel O p) H ∧ Rep K F' (.ref p) (.dK ds) := by
  obtain ⟨hf, vs, h1, h2⟩ := r.own p _ h
  exact ⟨_, r.freeze h h1, .dK upd_same (h2.mono (Sub.upd hf))⟩
theorem RS.freezeT (r : RS K F O H) {ds : List (List Key × DV)} (h : O p = some (.dT ds)) : ∃ F', Stp K F O H F' (odel O p) H ∧ Rep K F' (.ref p) (.dT ds) := by
  obtain ⟨hf, vs, h1, h2⟩ := r.own p _ h
  exact ⟨_, r.freeze h h1, .dT upd_same (h2.mono (Sub.upd hf))⟩
end

/-! ### the readings -/
abbrev DSt := List (Option DV)
abbrev DVK := DV → Own → Prop
abbrev DTE := DSt → Own → DVK → Prop
abbrev DTT := DSt → Own → (Bool → Own → Prop) → Prop
abbrev DTA := DSt → Own → (List DV → Own → Prop) → Prop
structure DEnds where
  nx : DSt → Own → Prop
  rt : DVK
  bk : DSt → Own → Prop := fun _ _ => False
  ct : DSt → Own → Prop := fun _ _ => False
abbrev DTS := DEnds → DSt → Own → Prop
abbrev DTG := DV → DSt → Own → (DSt → Own → Prop) → Prop
abbrev DTI := DSt → Own → (List DV → Own → Prop) → Prop

def SR (K : PySem.W.Frag) (F : Hp) (σ : L2.St) (S : DSt) : Prop := σ.length = S.length ∧ ∀ (i : Nat) (d : DV), S[i]? = some (some d) → ∃ v, σ[i]? = some (some v) ∧ Rep K F v d
theorem SR.mono {K : PySem.W.Frag} {F F' : Hp} {σ : L2.St} {S : DSt} (s : Sub F F') (h : SR K F σ S) : SR K F' σ S :=
  ⟨h.1, fun i d e => let ⟨v, h1, h2⟩ := h.2 i d e; ⟨v, h1, h2.mono s⟩⟩
theorem SR.set {K : PySem.W.Frag} {F : Hp} {σ : L2.St} {S : DSt} {v : V} {d : DV} (h : SR K F σ S) (i : Nat) (r : Rep K F v d) : SR K F (σ.set i (some v)) (S.set i (some d)) := by
  refine ⟨by simp [h.1], fun j e q => ?_⟩
  by_cases hj : j = i
  · subst hj
    have hl : j < S.length := by
      have := (List.getElem?_eq_some_iff.mp q).1
      simpa using this
    rw [List.getElem?_set_self hl] at q
    cases q
    exact ⟨v, List.getElem?_set_self (by rw [h.1]; exact hl), r⟩
  · rw [List.getElem?_set_ne (Ne.symm hj)] at q ⊢
    exact h.2 j e q
theorem SR.start {K : PySem.W.Frag} {F : Hp} {vs : List V} {ds : List DV} (N : List Str) (r : Reps K F vs ds) : SR K F (start N vs) (ds.map some ++ List.replicate (N.length - ds.length) none) := by
  refine ⟨by simp [L2.start, r.len], fun i d e => ?_⟩
  by_cases hi : i < ds.length
  · rw [List.getElem?_append_left (by simpa using hi)] at e
    rw [List.getElem?_map] at e
    cases q : ds[i]? with
    | none => rw [q] at e; cases e
    | some d' =>
      rw [q] at e
      cases e
      obtain ⟨v, h1, h2⟩ := r.get q
      refine ⟨v, ?_, h2⟩
      unfold L2.start
      rw [List.getElem?_append_left (by simpa [r.len] using hi), List.getElem?_map, h1]
      rfl
  · rw [List.getElem?_append_right (by simpa using hi), List.getElem?_replicate] at e
    split at e <;> cases e

def FinE (K : PySem.W.Frag) (F : Hp) (O : Own) (H : Hp) (Q : DVK) (VQ : VK) : Prop := ∀ d O', Q d O' → ∀ v H' F', Stp K F O H F' O' H' → Rep K F' v d → VQ v H'
def FinT (K : PySem.W.Frag) (F : Hp) (O : Own) (H : Hp) (Q : Bool → Own → Prop) (VQ : Bool → Hp → Prop) : Prop := ∀ b O', Q b O' → ∀ H' F', Stp K F O H F' O' H' → VQ b H'
def FinA (K : PySem.W.Frag) (F : Hp) (O : Own) (H : Hp) (Q : List DV → Own → Prop) (VQ : List V → Hp → Prop) : Prop := ∀ ds O', Q ds O' → ∀ vs H' F', Stp K F O H F' O' H' → Reps K F' vs ds → VQ vs H'
def FinS (K : PySem.W.Frag) (F : Hp) (O : Own) (H : Hp) (Q : DSt → Own → Prop) (VQ : L2.St → Hp → Prop) : Prop := ∀ S O', Q S O' → ∀ σ' H' F', Stp K F O H F' O' H' → SR K F' σ' S → VQ σ' H'
structure FinD (K : PySem.W.Frag) (F : Hp) (O : Own) (H : Hp) (D : DEnds) (VD : Ends) : Prop where
  nx : FinS K F O H D.nx VD.nx
  rt : FinE K F O H D.rt VD.rt
  bk : FinS K F O H D.bk VD.bk
  ct : FinS K F O H D.ct VD.ct
section
variable {K : PySem.W.Frag} {F F' H H' : Hp} {O O' : Own}
theorem FinE.step {Q : DVK} {VQ : VK} (h : FinE K F O H Q VQ) (s : Stp K F O H F' O' H') : FinE K F' O' H' Q VQ := fun d O q v H G s' p => h d O q v H G (s.trans s') p
theorem FinT.step {Q : Bool → Own → Prop} {VQ : Bool → Hp → Prop} (h : FinT K F O H Q VQ) (s : Stp K F O H F' O' H') : FinT K F' O' H' Q VQ := fun d O q H G s' => h d O q H G (s.trans s')
theorem FinA.step {Q : List DV → Own → Prop} {VQ : List V → Hp → Prop} (h : FinA K F O H Q VQ) (s : Stp K F O H F' O' H') : FinA K F' O' H' Q VQ := fun d O q v H G s' p => h d O q v H G (s.trans s') p
theorem FinS.step {Q : DSt → Own → Prop} {VQ : L2.St → Hp → Prop} (h : FinS K F O H Q VQ) (s : Stp K F O H F' O' H') : FinS K F' O' H' Q VQ := fun d O q v H G s' p => h d O q v H G (s.trans s') p
theorem FinD.step {D : DEnds} {VD : Ends} (h : FinD K F O H D VD) (s : Stp K F O H F' O' H') : FinD K F' O' H' D VD := ⟨h.nx.step s, h.rt.step s, h.bk.step s, h.ct.step s⟩
end

def liftE (K : PySem.W.Frag) (t : DTE) : TE := fun σ H VQ => ∃ F O S Q, RS K F O H ∧ SR K F σ S ∧ t S O Q ∧ FinE K F O H Q VQ
def liftT (K : PySem.W.Frag) (t : DTT) : TT := fun σ H VQ => ∃ F O S Q, RS K F O H ∧ SR K F σ S ∧ t S O Q ∧ FinT K F O H Q VQ
def liftA (K : PySem.W.Frag) (t : DTA) : TA := fun σ H VQ => ∃ F O S Q, RS K F O H ∧ SR K F σ S ∧ t S O Q ∧ FinA K F O H Q VQ
def liftS (K : PySem.W.Frag) (t : DTS) : TS := fun VD σ H => ∃ F O S D, RS K F O H ∧ SR K F σ S ∧ t D S O ∧ FinD K F O H D VD
def liftG (K : PySem.W.Frag) (g : DTG) : TG := fun v σ H VQ => ∃ F O S Q d, RS K F O H ∧ SR K F σ S ∧ Rep K F v d ∧ g d S O Q ∧ FinS K F O H Q VQ
/-- an iterator that yields these -/
def Yields (K : PySem.W.Frag) (F : Hp) (J : It) (ds : List DV) : Prop := ∀ (i : Nat) (O : Own) (H F2 : Hp), Sub F F2 → RS K F2 O H →
  (∀ d, ds[i]? = some d → J.go i H ∧ ∀ x H', J.yld i H x H' → ∃ F3, Stp K F2 O H F3 O H' ∧ Rep K F3 x d) ∧ (ds.length ≤ i → J.stop i H)
def liftI (K : PySem.W.Frag) (t : DTI) : TI := fun σ H R => ∃ F O S Q, RS K F O H ∧ SR K F σ S ∧ t S O Q ∧ ∀ ds O', Q ds O' → ∀ J H' F', Stp K F O H F' O' H' → Yields K F' J ds → R J H'

structure DE (X : Cx) (e : Expr) (t : DTE) : Prop where
  pe : PE X e (liftE X.K t)
structure DT (X : Cx) (e : Expr) (t : DTT) : Prop where
  pt : PT X e (liftT X.K t)
structure DW (X : Cx) (e : Expr) (t : DTT) : Prop where
  pw : PW X e (liftT X.K t)
structure DA (X : Cx) (es : List Expr) (t : DTA) : Prop where
  pa : PA X es (liftA X.K t)
structure DS (X : Cx) (st : Stmt) (t : DTS) : Prop where
  ps : PS X st (liftS X.K t)
structure DSs (X : Cx) (st : List Stmt) (t : DTS) : Prop where
  ps : PSs X st (liftS X.K t)
structure DG (X : Cx) (e : Expr) (t : DTG) : Prop where
  pg : PG X e (liftG X.K t)
structure DI (X : Cx) (tg it : Expr) (t : DTI) : Prop where
  pi : PI X tg it (liftI X.K t)

theorem PE_imp {X : Cx} {e : Expr} {t t' : TE} (h : PE X e t) (i : ∀ σ H Q, t' σ H Q → t σ H Q) : PE X e t' := ⟨fun pins s σ H Q I q => h.run pins s σ H Q I (i σ H Q q)⟩
theorem PT_imp {X : Cx} {e : Expr} {t t' : TT} (h : PT X e t) (i : ∀ σ H Q, t' σ H Q → t σ H Q) : PT X e t' := ⟨fun pins s σ H Q I q => h.run pins s σ H Q I (i σ H Q q)⟩
theorem PW_imp {X : Cx} {e : Expr} {t t' : TT} (h : PW X e t) (i : ∀ σ H Q, t' σ H Q → t σ H Q) : PW X e t' := ⟨fun w pins s σ H Q I q => h.run w pins s σ H Q I (i σ H Q q)⟩
theorem PA_imp {X : Cx} {e : List Expr} {t t' : TA} (h : PA X e t) (i : ∀ σ H Q, t' σ H Q → t σ H Q) : PA X e t' := ⟨fun p pins s σ H Q I q => h.run p pins s σ H Q I (i σ H Q q)⟩
theorem PS_imp {X : Cx} {e : Stmt} {t t' : TS} (h : PS X e t) (i : ∀ D σ H, t' D σ H → t D σ H) : PS X e t' := ⟨fun pins s σ H D I q => h.run pins s σ H D I (i D σ H q)⟩
theorem PSs_imp {X : Cx} {e : List Stmt} {t t' : TS} (h : PSs X e t) (i : ∀ D σ H, t' D σ H → t D σ H) : PSs X e t' := ⟨fun pins s σ H D I q => h.run pins s σ H D I (i D σ H q)⟩
theorem PG_imp {X : Cx} {e : Expr} {t t' : TG} (h : PG X e t) (i : ∀ v σ H Q, t' v σ H Q → t v σ H Q) : PG X e t' := ⟨fun pins s σ H v u Q I r q => h.run pins s σ H v u Q I r (i v σ H Q q)⟩
theorem PI_imp {X : Cx} {a b : Expr} {t t' : TI} (h : PI X a b t) (i : ∀ σ H Q, t' σ H Q → t σ H Q) : PI X a b t' := ⟨fun pins s σ H Q I q => h.run pins s σ H Q I (i σ H Q q)⟩
end DL

set_option Elab.async false
set_option linter.all false
set_option maxRecDepth 100000
/-! DCore: the rules over data. -/
namespace DL
open PySem PySem.Spec PyProof.Rows L2

/-! ### slots, names, constants -/
def slot : DSt → Nat → Option DV
  | [], _ => none
  | x :: _, 0 => x
  | _ :: r, n + 1 => slot r n
theorem slot_get : ∀ {S : DSt} {i : Nat} {d : DV}, slot S i = some d → S[i]? = some (some d)
  | [], _, _, h => by cases h
  | x :: _, 0, _, h => by simp only [slot] at h; simp [h]
  | _ :: r, n + 1, d, h => by simpa using slot_get (S := r) (i := n) h
def onSome {α : Type} : Option α → (α → Prop) → Prop
  | some x, K => K x
  | none, _ => False
theorem onSome_ex {α : Type} {o : Option α} {K : α → Prop} (h : onSome o K) : ∃ x, o = some x ∧ K x := by
  cases o with
  | none => exact h.elim
  | some x => exact ⟨x, rfl, h⟩
theorem onSome_of {α : Type} {o : Option α} {K : α → Prop} {x : α} (e : o = some x) (h : K x) : onSome o K := by rw [e]; exact h
def dVar (i : Nat) : DTE := fun S O Q => onSome (slot S i) fun d => Q d O
def dC (d : DV) : DTE := fun _ O Q => Q d O
section
variable {X : Cx}
theorem dv (i : Nat) {x : Str} {pos : Pos} (hN : X.N[i]? = some x := by rfl) (hv : Vis X.env.scope x := by first | exact Or.inl rfl | exact Or.inr (Or.inl rfl) | exact Or.inr (Or.inr rfl)) (hd : (x == ("__debug__" : Str)) = false := by decide)
    (hcd : (x == ("__classdict__" : Str)) = false := by decide) : DE X (.Name x pos) (dVar i) := by
  refine ⟨PE_imp (pv i hN hv hd hcd) ?_⟩
  rintro σ H VQ ⟨F, O, S, Q, rs, sr, h, fin⟩
  obtain ⟨d, e, h⟩ := onSome_ex h
  obtain ⟨v, h1, h2⟩ := sr.2 i d (slot_get e)
  exact ⟨v, h1, fin d O h v H F (.refl rs) h2⟩
theorem DE.const {e : Expr} {v : V} {d : DV} (h : PE X e (tC v)) (r : ∀ F, Rep X.K F v d) : DE X e (dC d) :=
  ⟨PE_imp h fun σ H VQ ⟨F, O, S, Q, rs, sr, q, fin⟩ => fin d O q v H F (.refl rs) (r F)⟩
theorem de_int {i j pos} : DE X (.Constant (.int i) j pos) (dC (.int i)) := .const pe_int fun _ => .int i
theorem de_bl {i j pos} : DE X (.Constant (.bool i) j pos) (dC (.bl i)) := .const pe_bl fun _ => .bl i
theorem de_non {j pos} : DE X (.Constant .none j pos) (dC .non) := .const pe_non fun _ => .non
theorem de_str {i j pos} : DE X (.Constant (.str i) j pos) (dC (.str i)) := .const pe_str fun _ => .str i
/-- a module's constant -/
theorem de_glob {x : Str} {v : V} {d : DV} {u : Value} {pos : Pos} (hg : Gl X x) (hm : X.mg x = some u) (r : RelV v u) (rd : ∀ F, Rep X.K F v d) (hd : (x == ("__debug__" : Str)) = false := by decide) : DE X (.Name x pos) (dC d) := .const (pe_glob hg hm r hd) rd
theorem de_globS {x z : Str} {t : Tok} {pos : Pos} (hm : X.mg x = some (.str z t)) (hg : Gl X x := by rfl) (hd : (x == ("__debug__" : Str)) = false := by decide) : DE X (.Name x pos) (dC (.str z)) := de_glob (v := .str z) hg hm ⟨_, rfl⟩ (fun _ => .str z) hd
theorem de_globI {x : Str} {z : Int} {t : Tok} {pos : Pos} (hm : X.mg x = some (.int z t)) (hg : Gl X x := by rfl) (hd : (x == ("__debug__" : Str)) = false := by decide) : DE X (.Name x pos) (dC (.int z)) := de_glob (v := .int z) hg hm ⟨_, rfl⟩ (fun _ => .int z) hd
theorem de_globR {x : Str} {a : Addr} {d : DV} {pos : Pos} (hm : X.mg x = some (.ref a)) (r : ∀ F, Rep X.K F (.ref a) d) (hg : Gl X x := by rfl) (hd : (x == ("__debug__" : Str)) = false := by decide) : DE X (.Name x pos) (dC d) := de_glob (v := .ref a) hg hm rfl r hd
theorem de_blt {x : Str} {n : String} {pos : Pos} (hm : X.mg x = none) (hv : bootBuiltins x = some (.type n)) (hg : Gl X x := by rfl) (hn : x ≠ "__name__" := by decide) (hd : (x == ("__debug__" : Str)) = false := by decide) : DE X (.Name x pos) (dC (.ty n)) :=
  .const (pe_bltn (v := .ty n) hg hm hv rfl hn hd) fun _ => .ty n
end

/-! ### two-place operations -/
abbrev DR2 := DV → DV → Own → DVK → Prop
def dOp (r : DR2) (ta tb : DTE) : DTE := fun S O Q => ta S O fun x O1 => tb S O1 fun y O2 => r x y O2 Q
def liftR2 (K : PySem.W.Frag) (r : DR2) : R2 := fun x y H VQ => ∃ F O dx dy Q, RS K F O H ∧ Rep K F x dx ∧ Rep K F y dy ∧ r dx dy O Q ∧ FinE K F O H Q VQ
theorem OpR_imp {X : Cx} {f : Value → Value → Sem Value} {r r' : R2} (h : OpR X f r) (i : ∀ x y H Q, r' x y H Q → r x y H Q) : OpR X f r' :=
  fun pins s σ H x y v u Q I rx ry q => h pins s σ H x y v u Q I rx ry (i x y H Q q)
structure OpD (X : Cx) (f : Value → Value → Sem Value) (r : DR2) : Prop where
  op : OpR X f (liftR2 X.K r)
theorem liftOp {K : PySem.W.Frag} {r : DR2} {ta tb : DTE} {σ : L2.St} {H : Hp} {VQ : VK} (h : liftE K (dOp r ta tb) σ H VQ) : tOp (liftR2 K r) (liftE K ta) (liftE K tb) σ H VQ := by
  obtain ⟨F, O, S, Q, rs, sr, h, fin⟩ := h
  exact ⟨F, O, S, _, rs, sr, h, fun dx O1 h1 x H1 F1 s1 rx => ⟨F1, O1, S, _, s1.rs, sr.mono s1.sub, h1, fun dy O2 h2 y H2 F2 s2 ry => ⟨F2, O2, dx, dy, Q, s2.rs, rx.mono s2.sub, ry, h2, fin.step (s1.trans s2)⟩⟩⟩
section
variable {X : Cx} {a b : Expr} {ta tb : DTE} {pos : Pos} {r : DR2}
theorem de_op {op : Operator} (ho : OpD X (binaryOp op) r) (ha : DE X a ta) (hb : DE X b tb) : DE X (.BinOp a op b pos) (dOp r ta tb) :=
  ⟨PE_imp (pe_op ho.op ha.pe hb.pe) fun _ _ _ h => liftOp h⟩
theorem de_cmp {op : CmpOp} (ho : OpD X (compareOp op) r) (ha : DE X a ta) (hb : DE X b tb) (hm : behindInMarks op b = false := by first | exact nomark _ | rfl | with_unfolding_all rfl) : DE X (.Compare a [op] [b] pos) (dOp r ta tb) :=
  ⟨PE_imp (pe_cmpR ho.op ha.pe hb.pe hm) fun _ _ _ h => liftOp h⟩
/-- a bool as a test -/
def kBl (Q : Bool → Own → Prop) : DV → Own → Prop
  | .bl b, O => Q b O
  | _, _ => False
def dTest (t : DTE) : DTT := fun S O Q => t S O (kBl Q)
theorem liftTest {K : PySem.W.Frag} {t : DTE} {σ : L2.St} {H : Hp} {VQ : Bool → Hp → Prop} (h : liftT K (dTest t) σ H VQ) : tTest (liftE K t) σ H VQ := by
  obtain ⟨F, O, S, Q, rs, sr, h, fin⟩ := h
  refine ⟨F, O, S, _, rs, sr, h, fun d O1 h1 v H1 F1 s1 rv => ?_⟩
  cases rv with
  | bl b => exact ⟨b, rfl, fin b O1 h1 H1 F1 s1⟩
  | _ => exact h1.elim
theorem dt_cmp {op : CmpOp} (ho : OpD X (compareOp op) r) (ha : DE X a ta) (hb : DE X b tb) (hm : behindInMarks op b = false := by first | exact nomark _ | rfl | with_unfolding_all rfl) : DT X (.Compare a [op] [b] pos) (dTest (dOp r ta tb)) := by
  refine ⟨PT_imp (pt_cmpR ho.op ha.pe hb.pe hm) fun σ H VQ h => ?_⟩
  obtain ⟨F, O, S, Q, rs, sr, h, fin⟩ := h
  refine liftOp ⟨F, O, S, _, rs, sr, h, fun d O1 h1 v H1 F1 s1 rv => ?_⟩
  cases rv with
  | bl b => exact ⟨b, rfl, fin b O1 h1 H1 F1 s1⟩
  | _ => exact h1.elim
end

/-- a list that is read: frozen or owned -/
def lstOf (O : Own) : DV → Option (List DV)
  | .lst xs => some xs
  | .ref a => match O a with
    | some (.lst xs) => some xs
    | _ => none
  | _ => none
/-- any sequence -/
def seqOf (O : Own) : DV → Option (List DV)
  | .lst xs => some xs
  | .slst xs => some xs
  | .tup xs => some xs
  | .stup xs => some xs
  | .ref a => match O a with
    | some (.lst xs) => some xs
    | _ => none
  | _ => none
/-- an owned cell that is a list .. -/
def onL : Option Cell → (List DV → Prop) → Prop
  | some (.lst xs), K => K xs
  | _, _ => False
def lstQ (O : Own) : DV → (List DV → Prop) → Prop
  | .lst xs, K => K xs
  | .ref a, K => onL (O a) K
  | _, _ => False
def seqQ (O : Own) : DV → (List DV → Prop) → Prop
  | .lst xs, K => K xs
  | .slst xs, K => K xs
  | .tup xs, K => K xs
  | .stup xs, K => K xs
  | .ref a, K => onL (O a) K
  | _, _ => False
theorem onL_ex {c : Option Cell} {K : List DV → Prop} (h : onL c K) : ∃ xs, c = some (.lst xs) ∧ K xs := by
  unfold onL at h
  split at h
  · exact ⟨_, rfl, h⟩
  · exact h.elim
theorem lstQ_ex {O : Own} {d : DV} {K : List DV → Prop} (h : lstQ O d K) : ∃ xs, lstOf O d = some xs ∧ K xs := by
  unfold lstQ at h
  split at h
  · exact ⟨_, rfl, h⟩
  · rename_i a
    obtain ⟨xs, e, h⟩ := onL_ex h
    exact ⟨xs, by simp [lstOf, e], h⟩
  · exact h.elim
theorem seqQ_ex {O : Own} {d : DV} {K : List DV → Prop} (h : seqQ O d K) : ∃ xs, seqOf O d = some xs ∧ K xs := by
  unfold seqQ at h
  split at h
  · exact ⟨_, rfl, h⟩
  · exact ⟨_, rfl, h⟩
  · exact ⟨_, rfl, h⟩
  · exact ⟨_, rfl, h⟩
  · rename_i a
    obtain ⟨xs, e, h⟩ := onL_ex h
    exact ⟨xs, by simp [seqOf, e], h⟩
  · exact h.elim
theorem lstOf_at {K : PySem.W.Frag} {F H : Hp} {O : Own} {v : V} {d : DV} {xs : List DV} (rs : RS K F O H) (r : Rep K F v d) (h : lstOf O d = some xs) : ∃ a vs, v = .ref a ∧ H a = some (.lst vs) ∧ Reps K F vs xs := by
  cases r with
  | lst e r => cases h; exact ⟨_, _, rfl, rs.lst e, r⟩
  | ref a =>
    simp only [lstOf] at h
    split at h
    · rename_i ys e
      cases h
      obtain ⟨_, vs, h1, h2⟩ := rs.own a _ e
      exact ⟨a, vs, rfl, h1, h2⟩
    · cases h
  | _ => cases h
theorem seqOf_at {K : PySem.W.Frag} {F H : Hp} {O : Own} {v : V} {d : DV} {xs : List DV} (rs : RS K F O H) (r : Rep K F v d) (h : seqOf O d = some xs) : ∃ a vs, v = .ref a ∧ (SqL K H a vs ∨ SqT K H a vs) ∧ Reps K F vs xs := by
  cases r with
  | lst e r => cases h; exact ⟨_, _, rfl, .inl (SqL.of (rs.lst e)), r⟩
  | slst e r => cases h; exact ⟨_, _, rfl, .inl (rs.sqL e), r⟩
  | tup e r => cases h; exact ⟨_, _, rfl, .inr (SqT.of (rs.tup e)), r⟩
  | stup e r => cases h; exact ⟨_, _, rfl, .inr (rs.sqT e), r⟩
  | ref a =>
    simp only [seqOf] at h
    split at h
    · rename_i ys e
      cases h
      obtain ⟨_, vs, h1, h2⟩ := rs.own a _ e
      exact ⟨a, vs, rfl, .inl (SqL.of h1), h2⟩
    · cases h
  | _ => cases h

/-! ### + - * // % -/
def dAdd : DV → DV → Own → DVK → Prop
  | .int i, .int j, O, Q => Q (.int (i + j)) O
  | .int i, .bl k, O, Q => Q (.int (i + b2i k)) O
  | .str a, .str b, O, Q => a.length + b.length ≤ sizeLine ∧ Q (.str (a ++ b)) O
  | .tup xs, .tup ys, O, Q => xs.length + ys.length ≤ sizeLine ∧ Q (.tup (xs ++ ys)) O
  | .lst xs, .lst ys, O, Q => xs.length + ys.length ≤ sizeLine ∧ Q (.lst (xs ++ ys)) O
  | .ref a, y, O, Q => onL (O a) fun xs => lstQ O y fun ys => xs.length + ys.length ≤ sizeLine ∧ Q (.lst (xs ++ ys)) O
  | .lst xs, .ref b, O, Q => onL (O b) fun ys => xs.length + ys.length ≤ sizeLine ∧ Q (.lst (xs ++ ys)) O
  | _, _, _, _ => False
theorem od_add {X : Cx} : OpD X (binaryOp .Add) dAdd := by
  refine ⟨OpR_imp (((op_add.or op_add_str).or (op_cat.or op_catA)).or op_add_ib) ?_⟩
  rintro x y H VQ ⟨F, O, dx, dy, Q, rs, rx, ry, h, fin⟩
  have fl : ∀ {x y : V} {dx dy : DV} {xs ys : List DV}, Rep X.K F x dx → Rep X.K F y dy → lstOf O dx = some xs → lstOf O dy = some ys → xs.length + ys.length ≤ sizeLine ∧ Q (.lst (xs ++ ys)) O →
      ((rI0 (fun i j => V.int (i + j)) x y H VQ ∨ (∃ i j, x = .str i ∧ y = .str j ∧ i.length + j.length ≤ sizeLine ∧ VQ (.str (i ++ j)) H)) ∨ (rCat x y H VQ ∨ rCatA X.K x y H VQ)) ∨ (∃ i k, x = .int i ∧ y = .bl k ∧ VQ (.int (i + b2i k)) H) := by
    intro x y dx dy xs ys rx ry e1 e2 h
    obtain ⟨a, vs, rfl, h1, r1⟩ := lstOf_at rs rx e1
    obtain ⟨b, ws, rfl, h2, r2⟩ := lstOf_at rs ry e2
    refine .inl (.inr (.inl ⟨a, b, vs, ws, rfl, rfl, h1, h2, by rw [r1.len, r2.len]; exact h.1, fun p hp => ?_⟩))
    have s := rs.new hp (.lst (vs ++ ws))
    exact fin _ _ h.2 _ _ _ s (.lst upd_same ((r1.mono s.sub).append (r2.mono s.sub)))
  unfold dAdd at h
  split at h
  · cases rx; cases ry
    exact .inl (.inl (.inl ⟨_, _, rfl, rfl, fin _ _ h _ _ F (.refl rs) (.int _)⟩))
  · cases rx; cases ry
    exact .inr ⟨_, _, rfl, rfl, fin _ _ h _ _ F (.refl rs) (.int _)⟩
  · cases rx; cases ry
    exact .inl (.inl (.inr ⟨_, _, rfl, rfl, h.1, fin _ _ h.2 _ _ F (.refl rs) (.str _)⟩))
  · rename_i xs ys
    cases rx with | @tup a vs _ e1 r1 => cases ry with | @tup b ws _ e2 r2 =>
    refine .inl (.inr (.inr ⟨a, b, vs, ws, rfl, rfl, SqT.of (rs.tup e1), SqT.of (rs.tup e2), by rw [r1.len, r2.len]; exact h.1, fun z => ?_, fun _ z => ?_, fun _ _ p hp => ?_⟩))
    · subst z; cases r1
      exact fin _ _ h.2 _ _ F (.refl rs) (.tup e2 r2)
    · subst z; cases r2
      have := h.2; rw [List.append_nil] at this
      exact fin _ _ this _ _ F (.refl rs) (.tup e1 r1)
    · have s := rs.new hp (.tup (vs ++ ws))
      exact fin _ _ h.2 _ _ _ s (.tup upd_same ((r1.mono s.sub).append (r2.mono s.sub)))
  · rename_i xs ys
    exact fl (xs := xs) (ys := ys) rx ry rfl rfl h
  · rename_i a y
    obtain ⟨xs, e1, h⟩ := onL_ex h
    obtain ⟨ys, e2, h⟩ := lstQ_ex h
    exact fl rx ry (by simp [lstOf, e1]) e2 h
  · rename_i xs b
    obtain ⟨ys, e2, h⟩ := onL_ex h
    exact fl (xs := xs) rx ry rfl (by simp [lstOf, e2]) h
  · exact h.elim
def dI2 (C : Int → Int → Prop) (g : Int → Int → DV) : DV → DV → Own → DVK → Prop
  | .int i, .int j, O, Q => C i j ∧ Q (g i j) O
  | _, _, _, _ => False
theorem od_I {X : Cx} {f : Value → Value → Sem Value} {C : Int → Int → Prop} {g : Int → Int → Int} (h : OpR X f (rI C fun i j => .int (g i j))) : OpD X f (dI2 C fun i j => .int (g i j)) := by
  refine ⟨OpR_imp h ?_⟩
  rintro x y H VQ ⟨F, O, dx, dy, Q, rs, rx, ry, h, fin⟩
  unfold dI2 at h
  split at h
  · cases rx; cases ry
    exact ⟨_, _, rfl, rfl, h.1, fin _ _ h.2 _ _ F (.refl rs) (.int _)⟩
  · exact h.elim
def dSub : DV → DV → Own → DVK → Prop
  | .int i, .int j, O, Q => Q (.int (i - j)) O
  | _, _, _, _ => False
theorem od_sub {X : Cx} : OpD X (binaryOp .Sub) dSub := by
  refine ⟨OpR_imp op_sub ?_⟩
  rintro x y H VQ ⟨F, O, dx, dy, Q, rs, rx, ry, h, fin⟩
  unfold dSub at h
  split at h
  · cases rx; cases ry
    exact ⟨_, _, rfl, rfl, fin _ _ h _ _ F (.refl rs) (.int _)⟩
  · exact h.elim
theorem od_mod {X : Cx} : OpD X (binaryOp .Mod) (dI2 (fun _ j => 0 < j) fun i j => .int (i % j)) := od_I op_mod
theorem od_fdiv {X : Cx} : OpD X (binaryOp .FloorDiv) (dI2 CDiv fun i j => .int (i / j)) := od_I op_fdiv
theorem od_pow {X : Cx} : OpD X (binaryOp .Pow) (dI2 CPow fun i j => .int (i ^ j.toNat)) := od_I op_pow
theorem od_mul {X : Cx} : OpD X (binaryOp .Mult) (dI2 CMul fun i j => .int (i * j)) := od_I op_mul

/-! ### comparisons -/
def dCmpI (p : Int → Int → Bool) : DV → DV → Own → DVK → Prop
  | .int i, .int j, O, Q => Q (.bl (p i j)) O
  | _, _, _, _ => False
theorem od_C {X : Cx} {f : Value → Value → Sem Value} {p : Int → Int → Bool} (h : OpR X f (rI0 fun i j => .bl (p i j))) : OpD X f (dCmpI p) := by
  refine ⟨OpR_imp h ?_⟩
  rintro x y H VQ ⟨F, O, dx, dy, Q, rs, rx, ry, h, fin⟩
  unfold dCmpI at h
  split at h
  · cases rx; cases ry
    exact ⟨_, _, rfl, rfl, fin _ _ h _ _ F (.refl rs) (.bl _)⟩
  · exact h.elim
theorem od_lt {X : Cx} : OpD X (compareOp .Lt) (dCmpI fun i j => decide (i < j)) := od_C op_lt
theorem od_le {X : Cx} : OpD X (compareOp .LtE) (dCmpI fun i j => decide (i ≤ j)) := od_C op_le
theorem od_gt {X : Cx} : OpD X (compareOp .Gt) (dCmpI fun i j => decide (j < i)) := od_C op_gt
theorem od_ge {X : Cx} : OpD X (compareOp .GtE) (dCmpI fun i j => decide (j ≤ i)) := od_C op_ge
mutual
def toPy : DV → Option PyData
  | .non => some .none
  | .bl b => some (.bool b)
  | .int i => some (.int i)
  | .str x => some (.str x)
  | .tup xs => match toPys xs with
    | some ps => some (.tuple ps)
    | none => none
  | .stup xs => match toPys xs with
    | some ps => some (.tuple ps)
    | none => none
  | .lst xs => match toPys xs with
    | some ps => some (.list ps)
    | none => none
  | _ => none
def toPys : List DV → Option (List PyData)
  | [] => some []
  | x :: r => match toPy x, toPys r with
    | some p, some ps => some (p :: ps)
    | _, _ => none
end
mutual
theorem dp_of {K : PySem.W.Frag} {F H : Hp} {O : Own} (rs : RS K F O H) : ∀ {v : V} {d : DV} {p : PyData}, Rep K F v d → toPy d = some p → Dp K H v p
  | _, _, _, .non, h => by cases h; exact .non
  | _, _, _, .bl b, h => by cases h; exact .bl b
  | _, _, _, .int b, h => by cases h; exact .int b
  | _, _, _, .str b, h => by cases h; exact .str b
  | _, _, _, .ref _, h => by cases h
  | _, _, _, .ty _, h => by cases h
  | _, _, _, .tup e r, h => by
    unfold toPy at h
    split at h
    · rename_i ps q; cases h; exact .tup (SqT.of (rs.tup e)) (dps_of rs r q)
    · cases h
  | _, _, _, .stup e r, h => by
    unfold toPy at h
    split at h
    · rename_i ps q; cases h; exact .tup (rs.sqT e) (dps_of rs r q)
    · cases h
  | _, _, _, .lst e r, h => by
    unfold toPy at h
    split at h
    · rename_i ps q; cases h; exact .lst (SqL.of (rs.lst e)) (dps_of rs r q)
    · cases h
  | _, _, _, .slst _ _, h => by cases h
  | _, _, _, .dK _ _, h => by cases h
  | _, _, _, .dT _ _, h => by cases h
theorem dps_of {K : PySem.W.Frag} {F H : Hp} {O : Own} (rs : RS K F O H) : ∀ {v : List V} {d : List DV} {p : List PyData}, Reps K F v d → toPys d = some p → DpAll K H v p
  | _, _, _, .nil, h => by cases h; exact .nil
  | _, _, _, .cons r q, h => by
    unfold toPys at h
    split at h
    · rename_i p ps e1 e2; cases h; exact .cons (dp_of rs r e1) (dps_of rs q e2)
    · cases h
end
/-- x == y of data at any depth -/
def dEqP (neg : Bool) (x y : DV) (O : Own) (Q : DVK) : Prop := onSome (toPy x) fun p => onSome (toPy y) fun q => SeqAt.shaped p = true ∧ SeqAt.shaped q = true ∧ Q (.bl (if neg then !PyData.eqv p q else PyData.eqv p q)) O
/-- x == y -/
def dEq (neg : Bool) : DV → DV → Own → DVK → Prop
  | .int i, .int j, O, Q => Q (.bl (if neg then !decide (i = j) else decide (i = j))) O
  | .str i, .str j, O, Q => Q (.bl (if neg then !decide (i = j) else decide (i = j))) O
  | .bl i, .bl j, O, Q => Q (.bl (if neg then !decide (i = j) else decide (i = j))) O
  | .lst xs, y, O, Q => dEqP neg (.lst xs) y O Q
  | .tup xs, y, O, Q => dEqP neg (.tup xs) y O Q
  | .stup xs, y, O, Q => dEqP neg (.stup xs) y O Q
  | .non, y, O, Q => dEqP neg .non y O Q
  | .int i, .non, O, Q => dEqP neg (.int i) .non O Q
  | .int i, .str y, O, Q => dEqP neg (.int i) (.str y) O Q
  | .int i, .tup y, O, Q => dEqP neg (.int i) (.tup y) O Q
  | .int i, .lst y, O, Q => dEqP neg (.int i) (.lst y) O Q
  | .str i, .non, O, Q => dEqP neg (.str i) .non O Q
  | .str i, .int y, O, Q => dEqP neg (.str i) (.int y) O Q
  | .str i, .tup y, O, Q => dEqP neg (.str i) (.tup y) O Q
  | .str i, .lst y, O, Q => dEqP neg (.str i) (.lst y) O Q
  | _, _, _, _ => False
end DL

set_option Elab.async false
set_option linter.all false
set_option maxRecDepth 100000
/-! DMore: the rules over data, further. -/
namespace DL
open PySem PySem.Spec PyProof.Rows L2 TL

theorem rep_bl {K : PySem.W.Frag} {F : Hp} {b c : Bool} (h : b = c) : Rep K F (.bl b) (.bl c) := h ▸ .bl b
theorem dEq_ok {X : Cx} {f : Value → Value → Sem Value} (neg : Bool) (h1 : OpR X f (if neg then rNe else rEq)) (h2 : OpR X f (if neg then rNeD X.K else rEqD X.K)) : OpD X f (dEq neg) := by
  refine ⟨OpR_imp (h1.or h2) ?_⟩
  rintro x y H VQ ⟨F, O, dx, dy, Q, rs, rx, ry, h, fin⟩
  have fp : dEqP neg dx dy O Q → ((if neg then rNe else rEq) x y H VQ ∨ (if neg then rNeD X.K else rEqD X.K) x y H VQ) := by
    intro h
    obtain ⟨p, e1, h⟩ := onSome_ex h
    obtain ⟨q, e2, h⟩ := onSome_ex h
    obtain ⟨s1, s2, h⟩ := h
    have q := fin _ _ h _ _ F (.refl rs) (.bl _)
    refine .inr ?_
    cases neg
    · exact ⟨_, _, dp_of rs rx e1, dp_of rs ry e2, s1, s2, by simpa [Bool.false_eq_true] using q⟩
    · exact ⟨_, _, dp_of rs rx e1, dp_of rs ry e2, s1, s2, by simpa using q⟩
  unfold dEq at h
  split at h
  · cases rx; cases ry
    have q := fin _ _ h _ _ F (.refl rs) (.bl _)
    refine .inl ?_
    cases neg
    · exact ⟨rfl, by simpa [Bool.false_eq_true] using q⟩
    · exact ⟨rfl, by simpa using q⟩
  · cases rx; cases ry
    have q := fin _ _ h _ _ F (.refl rs) (.bl _)
    refine .inl ?_
    cases neg
    · exact ⟨rfl, by simpa [Bool.false_eq_true] using q⟩
    · exact ⟨rfl, by simpa using q⟩
  · cases rx; cases ry
    have q := fin _ _ h _ _ F (.refl rs) (.bl _)
    refine .inl ?_
    cases neg
    · exact ⟨rfl, by simpa [Bool.false_eq_true] using q⟩
    · exact ⟨rfl, by simpa using q⟩
  all_goals first | exact fp h | exact h.elim
theorem od_eq {X : Cx} (hu : X.A.units + 64 < cLine) : OpD X (compareOp .Eq) (dEq false) := dEq_ok false op_eq (op_eqD hu)
theorem od_ne {X : Cx} (hu : X.A.units + 64 < cLine) : OpD X (compareOp .NotEq) (dEq true) := dEq_ok true op_ne (op_neD hu)
/-- is None -/
def isNon : DV → Bool
  | .non => true
  | _ => false
def dIsN (neg : Bool) : DV → DV → Own → DVK → Prop
  | x, .non, O, Q => Q (.bl (if neg then !isNon x else isNon x)) O
  | _, _, _, _ => False
theorem isN_rep {K : PySem.W.Frag} {F : Hp} {v : V} {d : DV} (r : Rep K F v d) : decide (v = .non) = isNon d := by
  cases r <;> rfl
theorem od_isN {X : Cx} : OpD X (compareOp .Is) (dIsN false) := by
  refine ⟨OpR_imp op_isN ?_⟩
  rintro x y H VQ ⟨F, O, dx, dy, Q, rs, rx, ry, h, fin⟩
  unfold dIsN at h
  split at h
  · cases ry
    refine ⟨rfl, ?_⟩
    rw [isN_rep rx]
    exact fin _ _ (by simpa using h) _ _ F (.refl rs) (.bl _)
  · exact h.elim
theorem od_notN {X : Cx} : OpD X (compareOp .IsNot) (dIsN true) := by
  refine ⟨OpR_imp op_notN ?_⟩
  rintro x y H VQ ⟨F, O, dx, dy, Q, rs, rx, ry, h, fin⟩
  unfold dIsN at h
  split at h
  · cases ry
    refine ⟨rfl, ?_⟩
    rw [isN_rep rx]
    exact fin _ _ (by simpa using h) _ _ F (.refl rs) (.bl _)
  · exact h.elim
/-! ### in -/
def flatD : DV → Bool
  | .non => true
  | .bl _ => true
  | .int _ => true
  | .str _ => true
  | _ => false
def eqF : DV → DV → Bool
  | .non, .non => true
  | .bl a, .bl b => a == b
  | .bl a, .int b => (if a then 1 else 0) == b
  | .int a, .bl b => a == (if b then 1 else 0)
  | .int a, .int b => a == b
  | .str a, .str b => a == b
  | _, _ => false
def inD (x : DV) (xs : List DV) : Bool := xs.any fun y => eqF y x
theorem flat_rep {K : PySem.W.Frag} {F : Hp} {v : V} {d : DV} (r : Rep K F v d) (f : flatD d = true) : flatV v = true := by
  cases r <;> first | rfl | cases f
theorem flat_reps {K : PySem.W.Frag} {F : Hp} : ∀ {v : List V} {d : List DV}, Reps K F v d → d.all flatD = true → v.all flatV = true
  | _, _, .nil, _ => rfl
  | _, _, .cons h r, f => by
    simp only [List.all_cons, Bool.and_eq_true] at f ⊢
    exact ⟨flat_rep h f.1, flat_reps r f.2⟩
theorem eqF_rep {K : PySem.W.Frag} {F : Hp} {v w : V} {d e : DV} (r : Rep K F v d) (q : Rep K F w e) (f : flatD d = true) (g : flatD e = true) : eqV v w = eqF d e := by
  cases r <;> first | (cases f; done) | (cases q <;> first | rfl | (cases g; done))
theorem inD_rep {K : PySem.W.Frag} {F : Hp} {w : V} {e : DV} (q : Rep K F w e) (g : flatD e = true) : ∀ {v : List V} {d : List DV}, Reps K F v d → d.all flatD = true → inV w v = inD e d
  | _, _, .nil, _ => rfl
  | _, _, .cons h r, f => by
    simp only [List.all_cons, Bool.and_eq_true] at f
    have := inD_rep q g r f.2
    unfold inV inD at *
    rw [List.any_cons, List.any_cons, this, eqF_rep h q f.1 g]
/-- x in a text, a list, a tuple -/
def dInS (neg : Bool) (z : Str) (O : Own) (Q : DVK) (c : Str) : List Nat → Prop
  | [k] => Q (.bl (if neg then !decide (k ∈ tl z) else decide (k ∈ tl z))) O
  | _ => Q (.bl (if neg then (!(!(Builtin.Str.occurrences z c 0 z.length 1).isEmpty)) else !(Builtin.Str.occurrences z c 0 z.length 1).isEmpty)) O
def dInQ (neg : Bool) (x y : DV) (O : Own) (Q : DVK) : Prop := seqQ O y fun xs => flatD x = true ∧ xs.all flatD = true ∧ Q (.bl (if neg then !inD x xs else inD x xs)) O
def dIn (neg : Bool) : DV → DV → Own → DVK → Prop
  | .str c, .str z, O, Q => dInS neg z O Q c (tl c)
  | x, .lst xs, O, Q => dInQ neg x (.lst xs) O Q
  | x, .slst xs, O, Q => dInQ neg x (.slst xs) O Q
  | x, .tup xs, O, Q => dInQ neg x (.tup xs) O Q
  | x, .stup xs, O, Q => dInQ neg x (.stup xs) O Q
  | x, .ref xs, O, Q => dInQ neg x (.ref xs) O Q
  | _, _, _, _ => False
theorem dIn_ok {X : Cx} {f : Value → Value → Sem Value} (neg : Bool) (h0 : OpR X f (fun x y H Q => ∃ (c : Nat) (z : Str), x = .str ⟨#[c]⟩ ∧ y = .str z ∧ Q (.bl (if neg then !decide (c ∈ z.cps.toList) else decide (c ∈ z.cps.toList))) H))
    (h1 : OpR X f (fun x y H Q => ∃ i j, x = .str i ∧ y = .str j ∧ Q (.bl (if neg then (!(!(Builtin.Str.occurrences j i 0 j.length 1).isEmpty)) else !(Builtin.Str.occurrences j i 0 j.length 1).isEmpty)) H))
    (h2 : OpR X f (rIn X.K neg)) : OpD X f (dIn neg) := by
  refine ⟨OpR_imp (h0.or (h1.or h2)) ?_⟩
  rintro x y H VQ ⟨F, O, dx, dy, Q, rs, rx, ry, h, fin⟩
  have fq : dInQ neg dx dy O Q → ((∃ (c : Nat) (z : Str), x = .str ⟨#[c]⟩ ∧ y = .str z ∧ VQ (.bl (if neg then !decide (c ∈ z.cps.toList) else decide (c ∈ z.cps.toList))) H) ∨
      ((∃ i j, x = .str i ∧ y = .str j ∧ VQ (.bl (if neg then (!(!(Builtin.Str.occurrences j i 0 j.length 1).isEmpty)) else !(Builtin.Str.occurrences j i 0 j.length 1).isEmpty)) H) ∨ rIn X.K neg x y H VQ)) := by
    intro h
    obtain ⟨xs, e, h⟩ := seqQ_ex h
    obtain ⟨p, vs, rfl, h1, r1⟩ := seqOf_at rs ry e
    refine .inr (.inr ⟨p, vs, rfl, h1, flat_rep rx h.1, flat_reps r1 h.2.1, ?_⟩)
    have := fin _ _ h.2.2 _ _ F (.refl rs) (.bl _)
    rw [inD_rep rx h.1 r1 h.2.1]
    cases neg <;> simpa using this
  unfold dIn at h
  split at h
  · rename_i c z
    cases rx; cases ry
    unfold dInS at h
    split at h
    · rename_i k e
      refine .inl ⟨k, z, ?_, rfl, ?_⟩
      · have : c = ⟨#[k]⟩ := ext_tl e
        rw [this]
      · exact fin _ _ h _ _ F (.refl rs) (.bl _)
    · exact .inr (.inl ⟨_, _, rfl, rfl, fin _ _ h _ _ F (.refl rs) (.bl _)⟩)
  all_goals first | exact fq h | exact h.elim
theorem od_in {X : Cx} : OpD X (compareOp .In) (dIn false) := dIn_ok false op_in_sign op_in_str op_in_seq
theorem od_notIn {X : Cx} : OpD X (compareOp .NotIn) (dIn true) := dIn_ok true op_notIn_sign op_notIn_str op_notIn_seq
/-- x in a dict of the module: text keys -/
def dInK (K : PySem.W.Frag) (d : Addr) (neg : Bool) : DV → DV → Own → DVK → Prop
  | .str z, .ref a, O, Q => a = d ∧ ∃ r, PySem.W.nsIn K d z = some r ∧ Q (.bl (if neg then !r.isSome else r.isSome)) O
  | _, _, _, _ => False
theorem od_inK {X : Cx} {d : Addr} {es : Array DictEntry} {n : Nat} (D : KDict X.K X.w d es n) : OpD X (compareOp .In) (dInK X.K d false) := by
  refine ⟨OpR_imp (op_in_kd D) ?_⟩
  rintro x y H VQ ⟨F, O, dx, dy, Q, rs, rx, ry, h, fin⟩
  unfold dInK at h
  split at h
  · cases rx; cases ry
    obtain ⟨rfl, r, h1, h2⟩ := h
    exact ⟨_, r, rfl, rfl, h1, fin _ _ h2 _ _ F (.refl rs) (.bl _)⟩
  · exact h.elim

/-! ### x[i], x[a:b] -/
def dIxQ (x : DV) (i : Int) (O : Own) (Q : DVK) : Prop := seqQ O x fun xs => onSome (atI xs i) fun d => Q d O
def dIx : DV → DV → Own → DVK → Prop
  | .str z, .int i, O, Q => z.length ≤ sizeLine ∧ onSome (atI (tl z) i) fun c => Q (.str ⟨#[c]⟩) O
  | .lst x, .int i, O, Q => dIxQ (.lst x) i O Q
  | .slst x, .int i, O, Q => dIxQ (.slst x) i O Q
  | .tup x, .int i, O, Q => dIxQ (.tup x) i O Q
  | .stup x, .int i, O, Q => dIxQ (.stup x) i O Q
  | .ref x, .int i, O, Q => dIxQ (.ref x) i O Q
  | _, _, _, _ => False
theorem atI_rep {K : PySem.W.Frag} {F : Hp} {vs : List V} {ds : List DV} {i : Int} {d : DV} (r : Reps K F vs ds) (h : atI ds i = some d) : ∃ v, atI vs i = some v ∧ Rep K F v d := by
  unfold atI at h ⊢
  rw [r.len]
  cases e : ixN ds.length i with
  | none => rw [e] at h; cases h
  | some j =>
    rw [e] at h
    exact r.get h
theorem de_ix {X : Cx} {a b : Expr} {ta tb : DTE} {pos : Pos} (ha : DE X a ta) (hb : DE X b tb) (hs : PlainIx b := by exact fun _ _ => rfl) : DE X (.Subscript a b pos) (dOp dIx ta tb) := by
  have h : IxR X (liftR2 X.K dIx) := by
    intro value slice pins s σ H x y v u VQ I rx' ry' h hs
    obtain ⟨F, O, dx, dy, Q, rs, rx, ry, h, fin⟩ := h
    refine ix_seq value slice pins s σ H x y v u VQ I rx' ry' ?_ hs
    have fq : ∀ i, dy = .int i → dIxQ dx i O Q → rIx X.K x y H VQ := by
      rintro i rfl h
      cases ry
      obtain ⟨xs, e, h⟩ := seqQ_ex h
      obtain ⟨d, e', h⟩ := onSome_ex h
      obtain ⟨p, vs, rfl, h1, r1⟩ := seqOf_at rs rx e
      obtain ⟨w, h2, h3⟩ := atI_rep r1 e'
      have q := fin _ _ h _ _ F (.refl rs) h3
      rcases h1 with h1 | h1
      · exact .inl ⟨p, vs, _, w, rfl, rfl, h1, h2, q⟩
      · exact .inr (.inl ⟨p, vs, _, w, rfl, rfl, h1, h2, q⟩)
    unfold dIx at h
    split at h
    · cases rx; cases ry
      obtain ⟨h0, h⟩ := h
      obtain ⟨c, e, h⟩ := onSome_ex h
      exact .inr (.inr ⟨_, _, c, rfl, rfl, h0, e, fin _ _ h _ _ F (.refl rs) (.str _)⟩)
    all_goals first | exact fq _ rfl h | exact h.elim
  exact ⟨PE_imp (pe_ix h ha.pe hb.pe hs) fun _ _ _ h => liftOp h⟩
abbrev DTO := DSt → Own → (Option Int → Own → Prop) → Prop
def liftO (K : PySem.W.Frag) (t : DTO) : TO := fun σ H VQ => ∃ F O S Q, RS K F O H ∧ SR K F σ S ∧ t S O Q ∧ ∀ o O', Q o O' → ∀ H' F', Stp K F O H F' O' H' → VQ o H'
structure DO (X : Cx) (e : Option Expr) (t : DTO) : Prop where
  po : PO X e (liftO X.K t)
theorem PO_imp {X : Cx} {e : Option Expr} {t t' : TO} (h : PO X e t) (i : ∀ σ H Q, t' σ H Q → t σ H Q) : PO X e t' := ⟨fun pins s σ H Q I q => h.run pins s σ H Q I (i σ H Q q)⟩
def dNoPart : DTO := fun _ O Q => Q none O
def kInt (Q : Int → Own → Prop) : DV → Own → Prop
  | .int i, O => Q i O
  | _, _ => False
def dPart (t : DTE) : DTO := fun S O Q => t S O (kInt fun i O' => Q (some i) O')
theorem do_none {X : Cx} : DO X none dNoPart := ⟨PO_imp po_none fun σ H VQ ⟨F, O, S, Q, rs, sr, h, fin⟩ => fin _ _ h H F (.refl rs)⟩
theorem do_some {X : Cx} {e : Expr} {t : DTE} (h : DE X e t) : DO X (some e) (dPart t) := by
  refine ⟨PO_imp (po_some h.pe) fun σ H VQ ⟨F, O, S, Q, rs, sr, h, fin⟩ => ⟨F, O, S, _, rs, sr, h, fun d O1 h1 v H1 F1 s1 rv => ?_⟩⟩
  cases rv with
  | int i => exact ⟨i, rfl, fin _ _ h1 H1 F1 s1⟩
  | _ => exact h1.elim
/-- the items of xs[lo:hi] -/
def cutD (xs : List DV) (lo hi : Option Int) : List DV := (xs.drop (HT.sIx xs.length 0 lo)).take (HT.sIx xs.length xs.length hi - HT.sIx xs.length 0 lo)
theorem cut_rep {K : PySem.W.Frag} {F : Hp} {vs : List V} {ds : List DV} (r : Reps K F vs ds) (lo hi : Option Int) : Reps K F (cutV vs lo hi) (cutD ds lo hi) := by
  unfold cutV cutD
  rw [r.len]
  exact (r.drop _).take _
/-- a list, not a tuple -/
def sqlOf (O : Own) : DV → Option (List DV)
  | .lst xs => some xs
  | .slst xs => some xs
  | .ref a => match O a with
    | some (.lst xs) => some xs
    | _ => none
  | _ => none
theorem sqlOf_at {K : PySem.W.Frag} {F H : Hp} {O : Own} {v : V} {d : DV} {xs : List DV} (rs : RS K F O H) (r : Rep K F v d) (h : sqlOf O d = some xs) : ∃ a vs, v = .ref a ∧ SqL K H a vs ∧ Reps K F vs xs := by
  cases r with
  | lst e r => cases h; exact ⟨_, _, rfl, SqL.of (rs.lst e), r⟩
  | slst e r => cases h; exact ⟨_, _, rfl, rs.sqL e, r⟩
  | ref a =>
    simp only [sqlOf] at h
    split at h
    · rename_i ys e
      cases h
      obtain ⟨_, vs, h1, h2⟩ := rs.own a _ e
      exact ⟨a, vs, rfl, SqL.of h1, h2⟩
    · cases h
  | _ => cases h
abbrev DR3 := DV → Option Int → Option Int → Own → DVK → Prop
def sqlQ (O : Own) : DV → (List DV → Prop) → Prop
  | .lst xs, K => K xs
  | .slst xs, K => K xs
  | .ref a, K => onL (O a) K
  | _, _ => False
theorem sqlQ_ex {O : Own} {d : DV} {K : List DV → Prop} (h : sqlQ O d K) : ∃ xs, sqlOf O d = some xs ∧ K xs := by
  unfold sqlQ at h
  split at h
  · exact ⟨_, rfl, h⟩
  · exact ⟨_, rfl, h⟩
  · rename_i a
    obtain ⟨xs, e, h⟩ := onL_ex h
    exact ⟨xs, by simp [sqlOf, e], h⟩
  · exact h.elim
def dSlR : DV → Option Int → Option Int → Own → DVK → Prop
  | .str z, lo, hi, O, Q => z.length ≤ sizeLine ∧ Q (.str (cutS z lo hi)) O
  | .tup xs, lo, hi, O, Q => Q (.tup (cutD xs lo hi)) O
  | .lst xs, lo, hi, O, Q => Q (.lst (cutD xs lo hi)) O
  | .slst xs, lo, hi, O, Q => Q (.lst (cutD xs lo hi)) O
  | .ref a, lo, hi, O, Q => onL (O a) fun xs => Q (.lst (cutD xs lo hi)) O
  | _, _, _, _, _ => False
def dSl (r : DR3) (te : DTE) (tl th : DTO) : DTE := fun S O Q => te S O fun x O1 => tl S O1 fun l O2 => th S O2 fun u O3 => r x l u O3 Q
theorem de_slice {X : Cx} {e : Expr} {lo hi : Option Expr} {te : DTE} {tl th : DTO} {pos p2 : Pos} (he : DE X e te) (hl : DO X lo tl) (hh : DO X hi th) : DE X (.Subscript e (.Slice lo hi none p2) pos) (dSl dSlR te tl th) := by
  have h : SlR X (fun x lo hi H VQ => ∃ F O dx Q, RS X.K F O H ∧ Rep X.K F x dx ∧ dSlR dx lo hi O Q ∧ FinE X.K F O H Q VQ) := by
    intro pins s σ H x v vl vu lo hi sl VQ I rv hs pl pu h
    obtain ⟨F, O, dx, Q, rs, rx, h, fin⟩ := h
    refine (sl_str.or (sl_tupA.or sl_list)) pins s σ H x v vl vu lo hi sl VQ I rv hs pl pu ?_
    have fl : ∀ {xs : List DV}, sqlOf O dx = some xs → Q (.lst (cutD xs lo hi)) O → (rSlS x lo hi H VQ ∨ (rSlA X.K x lo hi H VQ ∨ rSlL X.K x lo hi H VQ)) := by
      intro xs e h
      obtain ⟨a, vs, rfl, h1, r1⟩ := sqlOf_at rs rx e
      refine .inr (.inr ⟨a, vs, rfl, h1, fun p hp => ?_⟩)
      have s := rs.new hp (.lst (cutV vs lo hi))
      exact fin _ _ h _ _ _ s (.lst upd_same ((cut_rep r1 lo hi).mono s.sub))
    unfold dSlR at h
    split at h
    · cases rx
      exact .inl ⟨_, rfl, h.1, fin _ _ h.2 _ _ F (.refl rs) (.str _)⟩
    · rename_i xs
      cases rx with | @tup a vs _ e1 r1 =>
      refine .inr (.inl ⟨a, vs, rfl, SqT.of (rs.tup e1), fun z => ?_, fun z p hp => ?_⟩)
      · refine fin _ _ h _ _ F (.refl rs) (.tup e1 ?_)
        have : cutD xs lo hi = xs := by
          unfold cutD
          rw [r1.len] at z
          rw [z.1, z.2]; simp
        rw [this]; exact r1
      · have s := rs.new hp (.tup (cutV vs lo hi))
        exact fin _ _ h _ _ _ s (.tup upd_same ((cut_rep r1 lo hi).mono s.sub))
    · rename_i xs
      exact fl rfl h
    · rename_i xs
      exact fl rfl h
    · rename_i a
      obtain ⟨xs, e, h⟩ := onL_ex h
      exact fl (by simp [sqlOf, e]) h
    · exact h.elim
  refine ⟨PE_imp (pe_slice h he.pe hl.po hh.po) ?_⟩
  rintro σ H VQ ⟨F, O, S, Q, rs, sr, h, fin⟩
  exact ⟨F, O, S, _, rs, sr, h, fun d O1 h1 v H1 F1 s1 r1 => ⟨F1, O1, S, _, s1.rs, sr.mono s1.sub, h1, fun o O2 h2 H2 F2 s2 =>
    ⟨F2, O2, S, _, s2.rs, sr.mono (s1.trans s2).sub, h2, fun o' O3 h3 H3 F3 s3 => ⟨F3, O3, d, Q, s3.rs, r1.mono (s2.trans s3).sub, h3, fin.step (s1.trans (s2.trans s3))⟩⟩⟩⟩
end DL

set_option Elab.async false
set_option linter.all false
set_option maxRecDepth 100000
/-! DStm: tests, arguments, displays, statements, loops, comprehensions, calls, over data. -/
namespace DL
open PySem PySem.Spec PyProof.Rows L2 TL

/-! ### tests -/
def dAnd (t u : DTT) : DTT := fun S O Q => t S O fun c O1 => if c = true then u S O1 Q else Q false O1
def dOr (t u : DTT) : DTT := fun S O Q => t S O fun c O1 => if c = true then Q true O1 else u S O1 Q
def dNot (t : DTT) : DTT := fun S O Q => t S O fun c O1 => Q (!c) O1
def kTru (Q : Bool → Own → Prop) : DV → Own → Prop
  | .non, O1 => Q false O1
  | .bl b, O1 => Q b O1
  | .int i, O1 => Q (i != 0) O1
  | .str y, O1 => y.length ≤ sizeLine ∧ Q ((y.length : Int) != 0) O1
  | .lst xs, O1 => Q (!xs.isEmpty) O1
  | .slst xs, O1 => Q (!xs.isEmpty) O1
  | .tup xs, O1 => Q (!xs.isEmpty) O1
  | .stup xs, O1 => Q (!xs.isEmpty) O1
  | .ref a, O1 => onL (O1 a) fun xs => Q (!xs.isEmpty) O1
  | _, _ => False
def dTrue (K : PySem.W.Frag) (t : DTE) : DTT := fun S O Q => t S O (kTru Q)
section
variable {X : Cx} {a b c : Expr} {ta tb : DTE} {tA tB : DTT} {rest : List Expr} {pos : Pos}
theorem dw_and1 (h : DT X a tA) : DW X (.BoolOp .And [a] pos) tA := ⟨pw_and1 h.pt⟩
theorem dw_or1 (h : DT X a tA) : DW X (.BoolOp .Or [a] pos) tA := ⟨pw_or1 h.pt⟩
theorem dw_and (ha : DT X a tA) (hb : DW X (.BoolOp .And (b :: rest) pos) tB) : DW X (.BoolOp .And (a :: b :: rest) pos) (dAnd tA tB) := by
  refine ⟨PW_imp (pw_and ha.pt hb.pw) ?_⟩
  rintro σ H VQ ⟨F, O, S, Q, rs, sr, h, fin⟩
  refine ⟨F, O, S, _, rs, sr, h, fun c O1 h1 H1 F1 s1 => ?_⟩
  dsimp only at h1 ⊢
  split
  · rename_i e
    rw [if_pos e] at h1
    exact ⟨F1, O1, S, Q, s1.rs, sr.mono s1.sub, h1, fin.step s1⟩
  · rename_i e
    rw [if_neg e] at h1
    exact fin _ _ h1 H1 F1 s1
theorem dw_or (ha : DT X a tA) (hb : DW X (.BoolOp .Or (b :: rest) pos) tB) : DW X (.BoolOp .Or (a :: b :: rest) pos) (dOr tA tB) := by
  refine ⟨PW_imp (pw_or ha.pt hb.pw) ?_⟩
  rintro σ H VQ ⟨F, O, S, Q, rs, sr, h, fin⟩
  refine ⟨F, O, S, _, rs, sr, h, fun c O1 h1 H1 F1 s1 => ?_⟩
  dsimp only at h1 ⊢
  split
  · rename_i e
    rw [if_pos e] at h1
    exact fin _ _ h1 H1 F1 s1
  · rename_i e
    rw [if_neg e] at h1
    exact ⟨F1, O1, S, Q, s1.rs, sr.mono s1.sub, h1, fin.step s1⟩
theorem dt_w (h : DW X a tA) : DT X a tA := ⟨h.pw.pt⟩
theorem dt_not (ha : DT X a tA) : DT X (.UnaryOp .Not a pos) (dNot tA) := by
  refine ⟨PT_imp (pt_not ha.pt) ?_⟩
  rintro σ H VQ ⟨F, O, S, Q, rs, sr, h, fin⟩
  exact ⟨F, O, S, _, rs, sr, h, fun c O1 h1 H1 F1 s1 => fin _ _ h1 H1 F1 s1⟩
/-- an expression whose value is a bool -/
theorem dt_val (h : DE X a ta) (he : ∀ whole, isTrue a X.env whole = (do let v ← whole; standAt a.pos; holding [v] (truthy v)) := by intro _; rfl) : DT X a (dTest ta) := by
  refine ⟨PT_imp (pt_val h.pe he) ?_⟩
  rintro σ H VQ ⟨F, O, S, Q, rs, sr, h, fin⟩
  refine ⟨F, O, S, _, rs, sr, h, fun d O1 h1 v H1 F1 s1 rv => ?_⟩
  cases rv with
  | bl b => exact ⟨b, rfl, fin b O1 h1 H1 F1 s1⟩
  | _ => exact h1.elim
theorem dt_tru (h : DE X a ta) (he : ∀ whole, isTrue a X.env whole = (do let v ← whole; standAt a.pos; holding [v] (truthy v)) := by intro _; rfl) : DT X a (dTrue X.K ta) := by
  refine ⟨PT_imp (pt_truth h.pe he) ?_⟩
  rintro σ H VQ ⟨F, O, S, Q, rs, sr, h, fin⟩
  refine ⟨F, O, S, _, rs, sr, h, fun d O1 h1 v H1 F1 s1 rv => ?_⟩
  have fq : ∀ {xs : List DV}, seqOf O1 d = some xs → Q (!xs.isEmpty) O1 → ∃ k, TruV X.K v H1 k ∧ VQ k H1 := by
    intro xs e h1
    obtain ⟨p, vs, rfl, h2, r2⟩ := seqOf_at s1.rs rv e
    have ee : (!vs.isEmpty) = (!xs.isEmpty) := by cases r2 <;> rfl
    refine ⟨!vs.isEmpty, ?_, by rw [ee]; exact fin _ O1 h1 H1 F1 s1⟩
    rcases h2 with h2 | h2
    · exact .inl ⟨vs, h2, rfl⟩
    · exact .inr (.inl ⟨vs, h2, rfl⟩)
  unfold kTru at h1
  split at h1
  · cases rv; exact ⟨_, rfl, fin _ O1 h1 H1 F1 s1⟩
  · cases rv; exact ⟨_, rfl, fin _ O1 h1 H1 F1 s1⟩
  · cases rv; exact ⟨_, rfl, fin _ O1 h1 H1 F1 s1⟩
  · cases rv; exact ⟨_, ⟨h1.1, rfl⟩, fin _ O1 h1.2 H1 F1 s1⟩
  · exact fq rfl h1
  · exact fq rfl h1
  · exact fq rfl h1
  · exact fq rfl h1
  · rename_i a
    obtain ⟨xs, e, h1⟩ := onL_ex h1
    exact fq (by simp [seqOf, e]) h1
  · exact h1.elim
/-- .. as values -/
def dAndV (ta tb : DTE) : DTE := fun S O Q => ta S O (kBl fun c O1 => if c = true then tb S O1 Q else Q (.bl false) O1)
def dOrV (ta tb : DTE) : DTE := fun S O Q => ta S O (kBl fun c O1 => if c = true then Q (.bl true) O1 else tb S O1 Q)
def dNotV (ta : DTE) : DTE := fun S O Q => ta S O (kBl fun c O1 => Q (.bl (!c)) O1)
theorem de_one {op} (h : DE X a ta) : DE X (.BoolOp op [a] pos) ta := ⟨pe_one h.pe⟩
theorem de_and (ha : DE X a ta) (hb : DE X (.BoolOp .And (b :: rest) pos) tb) : DE X (.BoolOp .And (a :: b :: rest) pos) (dAndV ta tb) := by
  refine ⟨PE_imp (pe_and ha.pe hb.pe) ?_⟩
  rintro σ H VQ ⟨F, O, S, Q, rs, sr, h, fin⟩
  refine ⟨F, O, S, _, rs, sr, h, fun d O1 h1 v H1 F1 s1 rv => ?_⟩
  cases rv with
  | bl c =>
    refine ⟨c, rfl, ?_⟩
    dsimp only [kBl] at h1
    split
    · rename_i e; rw [if_pos e] at h1
      exact ⟨F1, O1, S, Q, s1.rs, sr.mono s1.sub, h1, fin.step s1⟩
    · rename_i e; rw [if_neg e] at h1
      exact fin _ _ h1 _ H1 F1 s1 (.bl _)
  | _ => exact h1.elim
theorem de_or (ha : DE X a ta) (hb : DE X (.BoolOp .Or (b :: rest) pos) tb) : DE X (.BoolOp .Or (a :: b :: rest) pos) (dOrV ta tb) := by
  refine ⟨PE_imp (pe_or ha.pe hb.pe) ?_⟩
  rintro σ H VQ ⟨F, O, S, Q, rs, sr, h, fin⟩
  refine ⟨F, O, S, _, rs, sr, h, fun d O1 h1 v H1 F1 s1 rv => ?_⟩
  cases rv with
  | bl c =>
    refine ⟨c, rfl, ?_⟩
    dsimp only [kBl] at h1
    split
    · rename_i e; rw [if_pos e] at h1
      exact fin _ _ h1 _ H1 F1 s1 (.bl _)
    · rename_i e; rw [if_neg e] at h1
      exact ⟨F1, O1, S, Q, s1.rs, sr.mono s1.sub, h1, fin.step s1⟩
  | _ => exact h1.elim
theorem de_not (ha : DE X a ta) : DE X (.UnaryOp .Not a pos) (dNotV ta) := by
  refine ⟨PE_imp (pe_not ha.pe) ?_⟩
  rintro σ H VQ ⟨F, O, S, Q, rs, sr, h, fin⟩
  refine ⟨F, O, S, _, rs, sr, h, fun d O1 h1 v H1 F1 s1 rv => ?_⟩
  cases rv with
  | bl c => exact ⟨c, rfl, fin _ _ h1 _ H1 F1 s1 (.bl _)⟩
  | _ => exact h1.elim
/-- a if t else b -/
def dIf (t : DTT) (ta tb : DTE) : DTE := fun S O Q => t S O fun c O1 => if c = true then ta S O1 Q else tb S O1 Q
theorem de_if (hc : DT X c tA) (ha : DE X a ta) (hb : DE X b tb) : DE X (.IfExp c a b pos) (dIf tA ta tb) := by
  refine ⟨PE_imp (pe_ifExp hc.pt ha.pe hb.pe) ?_⟩
  rintro σ H VQ ⟨F, O, S, Q, rs, sr, h, fin⟩
  refine ⟨F, O, S, _, rs, sr, h, fun c O1 h1 H1 F1 s1 => ?_⟩
  dsimp only at h1 ⊢
  split
  · rename_i e; rw [if_pos e] at h1
    exact ⟨F1, O1, S, Q, s1.rs, sr.mono s1.sub, h1, fin.step s1⟩
  · rename_i e; rw [if_neg e] at h1
    exact ⟨F1, O1, S, Q, s1.rs, sr.mono s1.sub, h1, fin.step s1⟩
def dNeg (t : DTE) : DTE := fun S O Q => t S O (kInt fun i O1 => Q (.int (-i)) O1)
theorem de_neg (ha : DE X a ta) : DE X (.UnaryOp .USub a pos) (dNeg ta) := by
  refine ⟨PE_imp (pe_un un_neg ha.pe) ?_⟩
  rintro σ H VQ ⟨F, O, S, Q, rs, sr, h, fin⟩
  refine ⟨F, O, S, _, rs, sr, h, fun d O1 h1 v H1 F1 s1 rv => ?_⟩
  cases rv with
  | int i => exact ⟨i, rfl, fin _ _ h1 _ H1 F1 s1 (.int _)⟩
  | _ => exact h1.elim
end

/-! ### arguments, displays -/
def dANil : DTA := fun _ O Q => Q [] O
def dACons (te : DTE) (tr : DTA) : DTA := fun S O Q => te S O fun x O1 => tr S O1 fun xs O2 => Q (x :: xs) O2
section
variable {X : Cx} {e : Expr} {es : List Expr} {te : DTE} {t : DTA} {pos : Pos}
theorem da_nil : DA X [] dANil := ⟨PA_imp pa_nil fun σ H VQ ⟨F, O, S, Q, rs, sr, h, fin⟩ => fin _ _ h [] H F (.refl rs) .nil⟩
theorem da_cons (ha : DE X e te) (hr : DA X es t) (hs : starEach (e :: es) X.env = (false, eval e X.env) :: starEach es X.env := by rfl) : DA X (e :: es) (dACons te t) := by
  refine ⟨PA_imp (pa_cons ha.pe hr.pa hs) ?_⟩
  rintro σ H VQ ⟨F, O, S, Q, rs, sr, h, fin⟩
  exact ⟨F, O, S, _, rs, sr, h, fun d O1 h1 v H1 F1 s1 rv => ⟨F1, O1, S, _, s1.rs, sr.mono s1.sub, h1, fun ds O2 h2 vs H2 F2 s2 r2 => fin _ _ h2 _ H2 F2 (s1.trans s2) (.cons (rv.mono s2.sub) r2)⟩⟩
theorem small_line {n : Nat} (h : n ≤ 4096) : n ≤ sizeLine := by
  have := sizeLine_eq
  omega
def dTup (t : DTA) : DTE := fun S O Q => t S O fun xs O1 => xs.length ≤ 4096 ∧ Q (.tup xs) O1
def dLstF (t : DTA) : DTE := fun S O Q => t S O fun xs O1 => xs.length ≤ 4096 ∧ Q (.lst xs) O1
def dLstO (t : DTA) : DTE := fun S O Q => t S O fun xs O1 => xs.length ≤ 4096 ∧ ∀ p, O1 p = none → Q (.ref p) (oset O1 p (.lst xs))
theorem de_tup {x1} (h : DA X es t) : DE X (.Tuple es x1 pos) (dTup t) := by
  refine ⟨PE_imp (pe_tup h.pa) ?_⟩
  rintro σ H VQ ⟨F, O, S, Q, rs, sr, h, fin⟩
  refine ⟨F, O, S, _, rs, sr, h, fun ds O1 h1 vs H1 F1 s1 r1 => ⟨by rw [r1.len]; exact small_line h1.1, fun p hp => ?_⟩⟩
  have s := s1.rs.new hp (.tup vs)
  exact fin _ _ h1.2 _ _ _ (s1.trans s) (.tup upd_same (r1.mono s.sub))
theorem de_lstF (h : DA X es t) : DE X (.List es pos) (dLstF t) := by
  refine ⟨PE_imp (pe_lst h.pa) ?_⟩
  rintro σ H VQ ⟨F, O, S, Q, rs, sr, h, fin⟩
  refine ⟨F, O, S, _, rs, sr, h, fun ds O1 h1 vs H1 F1 s1 r1 => ⟨by rw [r1.len]; exact small_line h1.1, fun p hp => ?_⟩⟩
  have s := s1.rs.new hp (.lst vs)
  exact fin _ _ h1.2 _ _ _ (s1.trans s) (.lst upd_same (r1.mono s.sub))
theorem de_lstO (h : DA X es t) : DE X (.List es pos) (dLstO t) := by
  refine ⟨PE_imp (pe_lst h.pa) ?_⟩
  rintro σ H VQ ⟨F, O, S, Q, rs, sr, h, fin⟩
  refine ⟨F, O, S, _, rs, sr, h, fun ds O1 h1 vs H1 F1 s1 r1 => ⟨by rw [r1.len]; exact small_line h1.1, fun p hp => ?_⟩⟩
  have rs' := s1.rs.newO hp (o := .lst vs) (c := .lst ds) ⟨vs, upd_same, r1⟩
  exact fin _ _ (h1.2 p (s1.rs.free hp).2) _ _ _ (s1.trans rs') (.ref p)
end

/-! ### built-in calls -/
abbrev DRL := List DV → Own → DVK → Prop
def liftC (K : PySem.W.Frag) (r : DRL) : List V → Hp → VK → Prop := fun vs H VQ => ∃ F O ds Q, RS K F O H ∧ Reps K F vs ds ∧ r ds O Q ∧ FinE K F O H Q VQ
structure CallD (X : Cx) (f : Value) (r : DRL) : Prop where
  cr : CallR X f (liftC X.K r)
theorem CallR_imp {X : Cx} {f : Value} {r r' : List V → Hp → VK → Prop} (h : CallR X f r) (i : ∀ vs H Q, r' vs H Q → r vs H Q) : CallR X f r' := fun pins s σ H xs us Q I v q => h pins s σ H xs us Q I v (i xs H Q q)
def dCB (r : DRL) (t : DTA) : DTE := fun S O Q => t S O fun ds O1 => r ds O1 Q
section
variable {X : Cx} {x : Str} {p pos : Pos} {e : Expr} {es : List Expr} {t : DTA} {id T : String} {r : DRL}
theorem liftCB {K : PySem.W.Frag} {r : DRL} {t : DTA} {σ : L2.St} {H : Hp} {VQ : VK} (h : liftE K (dCB r t) σ H VQ) : tCB (liftC K r) (liftA K t) σ H VQ := by
  obtain ⟨F, O, S, Q, rs, sr, h, fin⟩ := h
  exact ⟨F, O, S, _, rs, sr, h, fun ds O1 h1 vs H1 F1 s1 r1 => ⟨F1, O1, ds, Q, s1.rs, r1, h1, fin.step s1⟩⟩
theorem de_callB (hc : CallD X (.builtin id) r) (hm : X.mg x = none) (hv : bootBuiltins x = some (.builtin id)) (ha : DA X (e :: es) t) (hg : Gl X x := by rfl) (hn : x ≠ "__name__" := by decide) (hdb : (x == ("__debug__" : Str)) = false := by decide)
    (he : starEach (e :: es) X.env = (false, eval e X.env) :: starEach es X.env := by rfl) (hpl : (backTo pos (starEach es X.env)).any (·.1) = false := by rfl) : DE X (.Call (.Name x p) (e :: es) [] pos) (dCB r t) :=
  ⟨PE_imp (pe_callB hc.cr hg hm hv ha.pa hn hdb he hpl) fun _ _ _ h => liftCB h⟩
theorem de_callTy (hc : CallD X (.type T) r) (hm : X.mg x = none) (hv : bootBuiltins x = some (.type T)) (ha : DA X (e :: es) t) (hg : Gl X x := by rfl) (hn : x ≠ "__name__" := by decide) (hdb : (x == ("__debug__" : Str)) = false := by decide)
    (he : starEach (e :: es) X.env = (false, eval e X.env) :: starEach es X.env := by rfl) (hpl : (backTo pos (starEach es X.env)).any (·.1) = false := by rfl) : DE X (.Call (.Name x p) (e :: es) [] pos) (dCB r t) :=
  ⟨PE_imp (pe_callTy hc.cr hg hm hv ha.pa hn hdb he hpl) fun _ _ _ h => liftCB h⟩
end
theorem Reps.one {K : PySem.W.Frag} {F : Hp} {vs : List V} {d : DV} (r : Reps K F vs [d]) : ∃ v, vs = [v] ∧ Rep K F v d := by
  cases r with | cons h r => cases r; exact ⟨_, rfl, h⟩
theorem Reps.two {K : PySem.W.Frag} {F : Hp} {vs : List V} {d e : DV} (r : Reps K F vs [d, e]) : ∃ v w, vs = [v, w] ∧ Rep K F v d ∧ Rep K F w e := by
  cases r with | cons h r => cases r with | cons h2 r => cases r; exact ⟨_, _, rfl, h, h2⟩
/-- len -/
def dLen : List DV → Own → DVK → Prop
  | [.str y], O, Q => y.length ≤ sizeLine ∧ Q (.int y.length) O
  | [.lst xs], O, Q => Q (.int xs.length) O
  | [.slst xs], O, Q => Q (.int xs.length) O
  | [.tup xs], O, Q => Q (.int xs.length) O
  | [.stup xs], O, Q => Q (.int xs.length) O
  | [.ref a], O, Q => onL (O a) fun xs => Q (.int xs.length) O
  | _, _, _ => False
theorem cd_len {X : Cx} : CallD X (.builtin "len") dLen := by
  refine ⟨CallR_imp call_len ?_⟩
  rintro vs H VQ ⟨F, O, ds, Q, rs, rr, h, fin⟩
  have fq : ∀ {d : DV} {xs : List DV}, ds = [d] → seqOf O d = some xs → Q (.int xs.length) O → ∃ x n, vs = [x] ∧ LenV X.K x H n ∧ VQ (.int n) H := by
    intro d xs ed e hq
    subst ed
    obtain ⟨v, rfl, r⟩ := rr.one
    obtain ⟨a, ws, rfl, h1, r1⟩ := seqOf_at rs r e
    refine ⟨.ref a, ws.length, rfl, ?_, ?_⟩
    · rcases h1 with h1 | h1
      · exact .inl ⟨ws, h1, rfl⟩
      · exact .inr ⟨ws, h1, rfl⟩
    · rw [r1.len]; exact fin _ _ hq _ _ F (.refl rs) (.int _)
  unfold dLen at h
  split at h
  · obtain ⟨v, rfl, r⟩ := rr.one
    cases r
    exact ⟨_, _, rfl, ⟨h.1, rfl⟩, fin _ _ h.2 _ _ F (.refl rs) (.int _)⟩
  · exact fq rfl rfl h
  · exact fq rfl rfl h
  · exact fq rfl rfl h
  · exact fq rfl rfl h
  · rename_i a
    obtain ⟨xs, e, h⟩ := onL_ex h
    exact fq rfl (by simp [seqOf, e]) h
  · exact h.elim
/-- int -/
def dInt : List DV → Own → DVK → Prop
  | [.int i], O, Q => Q (.int i) O
  | [.bl k], O, Q => Q (.int (if k then 1 else 0)) O
  | [.str a], O, Q => ∃ n, PySem.intText? a = some n ∧ a.length ≤ 640 ∧ Q (.int n) O
  | _, _, _ => False
theorem cd_int {X : Cx} : CallD X (.type "int") dInt := by
  refine ⟨CallR_imp (call_int1.or call_int_str) ?_⟩
  rintro vs H VQ ⟨F, O, ds, Q, rs, rr, h, fin⟩
  unfold dInt at h
  split at h
  · obtain ⟨v, rfl, r⟩ := rr.one
    cases r
    exact .inl (.inl ⟨_, rfl, fin _ _ h _ _ F (.refl rs) (.int _)⟩)
  · obtain ⟨v, rfl, r⟩ := rr.one
    cases r
    exact .inl (.inr ⟨_, rfl, fin _ _ h _ _ F (.refl rs) (.int _)⟩)
  · obtain ⟨v, rfl, r⟩ := rr.one
    cases r
    obtain ⟨n, h1, h2, h3⟩ := h
    exact .inr ⟨_, n, rfl, h1, h2, fin _ _ h3 _ _ F (.refl rs) (.int _)⟩
  · exact h.elim
/-- str of an int -/
def dStrI : List DV → Own → DVK → Prop
  | [.int i], O, Q => i.natAbs.log2 < 1920 ∧ Q (.str (toString i)) O
  | _, _, _ => False
theorem cd_str {X : Cx} : CallD X (.type "str") dStrI := by
  refine ⟨CallR_imp call_str_int ?_⟩
  rintro vs H VQ ⟨F, O, ds, Q, rs, rr, h, fin⟩
  unfold dStrI at h
  split at h
  · obtain ⟨v, rfl, r⟩ := rr.one
    cases r
    exact ⟨_, rfl, h.1, fin _ _ h.2 _ _ F (.refl rs) (.str _)⟩
  · exact h.elim
/-- isinstance by a built-in type -/
def tyName (O : Own) : DV → Option String
  | .non => some "NoneType"
  | .bl _ => some "bool"
  | .int _ => some "int"
  | .str _ => some "str"
  | .tup _ => some "tuple"
  | .stup _ => some "tuple"
  | .lst _ => some "list"
  | .slst _ => some "list"
  | .dK _ => some "dict"
  | .ref a => match O a with
    | some (.lst _) => some "list"
    | some (.dK _) => some "dict"
    | some (.dT _) => some "dict"
    | _ => none
  | _ => none
def subTy (a b : String) : Bool := a == b || (a == "bool" && b == "int")
def dIsi : List DV → Own → DVK → Prop
  | [d, .ty b], O, Q => onSome (tyName O d) fun a => b ∈ ["int", "str", "bool", "list", "tuple", "dict"] ∧ Q (.bl (subTy a b)) O
  | _, _, _ => False
theorem kitB_sub : ∀ a ∈ ["NoneType", "bool", "int", "str", "tuple", "list", "dict"], ∀ b ∈ ["int", "str", "bool", "list", "tuple", "dict"], kitB a b = some (subTy a b) := by decide +kernel
theorem tyName_mem {O : Own} {d : DV} {a : String} (h : tyName O d = some a) : a ∈ ["NoneType", "bool", "int", "str", "tuple", "list", "dict"] := by
  unfold tyName at h
  split at h <;> first | (cases h; done) | (cases h; decide) | skip
  split at h <;> first | (cases h; done) | (cases h; decide)
theorem tyName_at {K : PySem.W.Frag} {F H : Hp} {O : Own} {v : V} {d : DV} {a : String} (rs : RS K F O H) (r : Rep K F v d) (h : tyName O d = some a) : TyX K H v (.type a) := by
  cases r with
  | non => cases h; exact .base .non
  | bl b => cases h; exact .base (.bl b)
  | int b => cases h; exact .base (.int b)
  | str b => cases h; exact .base (.str b)
  | ty b => cases h
  | tup e r => cases h; exact .base (.tup (rs.tup e))
  | stup e r =>
    cases h
    rcases rs.sqT e with (e | ⟨o, e⟩) | ⟨o, its, n, e, c, _⟩
    · exact .base (.tup e)
    · exact .fTuple e
    · exact .kTuple e c
  | lst e r => cases h; exact .base (.lst (rs.lst e))
  | slst e r =>
    cases h
    rcases rs.sqL e with (e | ⟨o, e⟩) | ⟨o, its, n, e, c, _⟩
    · exact .base (.lst e)
    · exact .base (.frz e)
    · exact .kList e c
  | dK e r =>
    cases h
    rcases rs.fro _ _ e with e | ⟨_, ob, e⟩
    · exact .base (.dK e)
    · exact .fDict e
  | dT e r => cases h
  | ref p =>
    simp only [tyName] at h
    split at h
    · rename_i xs e; cases h
      obtain ⟨_, vs, h1, _⟩ := rs.own p _ e
      exact .base (.lst h1)
    · rename_i xs e; cases h
      obtain ⟨_, vs, h1, _⟩ := rs.own p _ e
      exact .base (.dK h1)
    · rename_i xs e; cases h
      obtain ⟨_, vs, h1, _⟩ := rs.own p _ e
      exact .base (.dT h1)
    · cases h
theorem cd_isi {X : Cx} : CallD X (.builtin "isinstance") dIsi := by
  refine ⟨CallR_imp call_isi ?_⟩
  rintro vs H VQ ⟨F, O, ds, Q, rs, rr, h, fin⟩
  unfold dIsi at h
  split at h
  · rename_i d b
    obtain ⟨v, w, rfl, r1, r2⟩ := rr.two
    cases r2
    obtain ⟨a, e, h⟩ := onSome_ex h
    exact ⟨v, .ty b, _, _, _, rfl, .ty b, tyName_at rs r1 e, kit_ty (kitB_sub a (tyName_mem e) b h.1), fin _ _ h.2 _ _ F (.refl rs) (.bl _)⟩
  · exact h.elim
end DL

set_option Elab.async false
set_option linter.all false
set_option maxRecDepth 100000
/-! DRun: methods, targets, statements, loops, comprehensions, calls, over data. -/
namespace DL
open PySem PySem.Spec PyProof.Rows L2 TL

/-! ### methods of built-in types -/
abbrev DRM := DV → List DV → Own → DVK → Prop
def mTy (O : Own) : DV → Option String
  | .str _ => some "str"
  | .lst _ => some "list"
  | .slst _ => some "list"
  | .ref a => match O a with
    | some (.lst _) => some "list"
    | some (.dK _) => some "dict"
    | some (.dT _) => some "dict"
    | _ => none
  | _ => none
theorem mTy_at {K : PySem.W.Frag} {F H : Hp} {O : Own} {v : V} {d : DV} {T : String} (rs : RS K F O H) (r : Rep K F v d) (h : mTy O d = some T) : tyV K T v H := by
  cases r with
  | str x => cases h; rfl
  | lst e r => cases h; exact .inl ⟨rfl, _, SqL.of (rs.lst e)⟩
  | slst e r => cases h; exact .inl ⟨rfl, _, rs.sqL e⟩
  | ref a =>
    simp only [mTy] at h
    split at h
    · rename_i xs e; cases h
      obtain ⟨_, vs, h1, _⟩ := rs.own a _ e
      exact .inl ⟨rfl, vs, SqL.of h1⟩
    · rename_i xs e; cases h
      obtain ⟨_, vs, h1, _⟩ := rs.own a _ e
      exact .inr (.inr (.inl ⟨rfl, .inl ⟨vs, h1⟩⟩))
    · rename_i xs e; cases h
      obtain ⟨_, vs, h1, _⟩ := rs.own a _ e
      exact .inr (.inr (.inl ⟨rfl, .inr ⟨vs, h1⟩⟩))
    · cases h
  | _ => cases h
def liftM (K : PySem.W.Frag) (r : DRM) : V → List V → Hp → VK → Prop := fun v vs H VQ => ∃ F O d ds Q, RS K F O H ∧ Rep K F v d ∧ Reps K F vs ds ∧ r d ds O Q ∧ FinE K F O H Q VQ
structure MtD (X : Cx) (id : String) (r : DRM) : Prop where
  mt : MtR X id (liftM X.K r)
theorem MtR_imp {X : Cx} {id : String} {r r' : V → List V → Hp → VK → Prop} (h : MtR X id r) (i : ∀ x xs H Q, r' x xs H Q → r x xs H Q) : MtR X id r' := fun pins s σ H x xs v us Q I rx rv q => h pins s σ H x xs v us Q I rx rv (i x xs H Q q)
def dBM (T : String) (r : DRM) (to : DTE) (t : DTA) : DTE := fun S O Q => to S O fun x O1 => mTy O1 x = some T ∧ t S O1 fun xs O2 => r x xs O2 Q
def dBM0 (T : String) (r : DRM) (to : DTE) : DTE := fun S O Q => to S O fun x O1 => mTy O1 x = some T ∧ r x [] O1 Q
section
variable {X : Cx} {o e : Expr} {es : List Expr} {to : DTE} {t : DTA} {name : Str} {apos cpos : Pos} {T id : String} {r : DRM}
theorem de_bm (pa : PlainAttrs T) (sl : Slot T name id) (hty : typeOf (.builtin id) = pure (.type "method_descriptor")) (hm : MtD X id r) (ho : DE X o to) (ha : DA X (e :: es) t)
    (hbase : attributeBase o name X.env (eval o X.env) = eval o X.env := by rfl)
    (hfew : ((backTo cpos (starEach (e :: es) X.env)).all (fun x => !x.1) && (backToKw cpos (keywordEach [] X.env)).all (fun x => x.1.isSome)
      && decide ((e :: es).length + ([] : List Keyword).length + (if ([] : List Keyword).isEmpty then 0 else 1) < 30)) = true := by rfl)
    (hline : (apos.endLine == cpos.line) = true := by rfl) (hs : starEach (e :: es) X.env = (false, eval e X.env) :: starEach es X.env := by rfl) (hplain : (backTo cpos (starEach es X.env)).any (·.1) = false := by rfl) :
    DE X (.Call (.Attribute o name apos) (e :: es) [] cpos) (dBM T r to t) := by
  refine ⟨PE_imp (pe_bm pa sl hty hm.mt ho.pe ha.pa hbase hfew hline hs hplain) ?_⟩
  rintro σ H VQ ⟨F, O, S, Q, rs, sr, h, fin⟩
  exact ⟨F, O, S, _, rs, sr, h, fun d O1 h1 v H1 F1 s1 rv => ⟨mTy_at s1.rs rv h1.1, F1, O1, S, _, s1.rs, sr.mono s1.sub, h1.2, fun ds O2 h2 vs H2 F2 s2 r2 => ⟨F2, O2, d, ds, Q, s2.rs, rv.mono s2.sub, r2, h2, fin.step (s1.trans s2)⟩⟩⟩
theorem de_bm0 (pa : PlainAttrs T) (sl : Slot T name id) (hty : typeOf (.builtin id) = pure (.type "method_descriptor")) (hm : MtD X id r) (ho : DE X o to)
    (hbase : attributeBase o name X.env (eval o X.env) = eval o X.env := by rfl) (hline : (apos.endLine == cpos.line) = true := by rfl) : DE X (.Call (.Attribute o name apos) [] [] cpos) (dBM0 T r to) := by
  refine ⟨PE_imp (pe_bm0 pa sl hty hm.mt ho.pe hbase hline) ?_⟩
  rintro σ H VQ ⟨F, O, S, Q, rs, sr, h, fin⟩
  exact ⟨F, O, S, _, rs, sr, h, fun d O1 h1 v H1 F1 s1 rv => ⟨mTy_at s1.rs rv h1.1, F1, O1, d, [], Q, s1.rs, rv, .nil, h1.2, fin.step s1⟩⟩
end
/-- xs.append(y) -/
def dApp : DV → List DV → Own → DVK → Prop
  | .ref a, [y], O, Q => onL (O a) fun xs => xs.length < sizeLine ∧ Q .non (oset O a (.lst (xs ++ [y])))
  | _, _, _, _ => False
theorem md_append {X : Cx} : MtD X "list.append" dApp := by
  refine ⟨MtR_imp mt_append ?_⟩
  rintro x xs H VQ ⟨F, O, d, ds, Q, rs, rx, rr, h, fin⟩
  unfold dApp at h
  split at h
  · rename_i a y
    cases rx
    obtain ⟨v, rfl, ry⟩ := rr.one
    obtain ⟨ys, e, h⟩ := onL_ex h
    obtain ⟨_, vs, h1, r1⟩ := rs.own a _ e
    refine ⟨a, vs, v, rfl, rfl, h1, by rw [r1.len]; exact h.1, ?_⟩
    exact fin _ _ h.2 _ _ F (rs.write e ⟨_, upd_same, r1.append (.cons ry .nil)⟩) .non
  · exact h.elim
def strOf : DV → Option Str
  | .str x => some x
  | _ => none
def strsOf : List DV → Option (List Str)
  | [] => some []
  | .str x :: r => match strsOf r with
    | some ys => some (x :: ys)
    | none => none
  | _ => none
theorem strsOf_map : ∀ ys : List Str, strsOf (ys.map DV.str) = some ys
  | [] => rfl
  | y :: r => by simp only [List.map_cons, strsOf, strsOf_map r]
theorem strsOf_eq : ∀ {xs : List DV} {ys : List Str}, strsOf xs = some ys → xs = ys.map DV.str
  | [], _, h => by cases h; rfl
  | .str x :: r, _, h => by
    unfold strsOf at h
    split at h
    · rename_i ys e; cases h; rw [strsOf_eq e]; rfl
    · cases h
  | .non :: _, _, h => by cases h
  | .bl _ :: _, _, h => by cases h
  | .int _ :: _, _, h => by cases h
  | .tup _ :: _, _, h => by cases h
  | .lst _ :: _, _, h => by cases h
  | .slst _ :: _, _, h => by cases h
  | .stup _ :: _, _, h => by cases h
  | .dK _ :: _, _, h => by cases h
  | .dT _ :: _, _, h => by cases h
  | .ref _ :: _, _, h => by cases h
  | .ty _ :: _, _, h => by cases h
/-- sep.join(xs) -/
def dJoin : DV → List DV → Own → DVK → Prop
  | .str a, [d], O, Q => seqQ O d fun xs => onSome (strsOf xs) fun ys => (ys.map (·.length)).sum + ys.length * a.length ≤ 16777216 ∧ Q (.str (Txt.join a ys)) O
  | _, _, _, _ => False
theorem md_join {X : Cx} : MtD X "str.join" dJoin := by
  refine ⟨MtR_imp mt_join ?_⟩
  rintro x xs H VQ ⟨F, O, d, ds, Q, rs, rx, rr, h, fin⟩
  unfold dJoin at h
  split at h
  · rename_i a y
    cases rx
    obtain ⟨v, rfl, ry⟩ := rr.one
    obtain ⟨ys, e, h⟩ := seqQ_ex h
    obtain ⟨p, vs, rfl, h1, r1⟩ := seqOf_at rs ry e
    obtain ⟨zs, e2, hj⟩ := onSome_ex h
    have e3 := strsOf_eq e2
    subst e3
    have e4 := r1.strs
    subst e4
    exact ⟨_, p, zs, rfl, rfl, h1, hj.1, fin _ _ hj.2 _ _ F (.refl rs) (.str _)⟩
  · exact h.elim
/-- x.split(sep) -/
def dSplit : DV → List DV → Own → DVK → Prop
  | .str a, [.str b], O, Q => (b.length == 0) = false ∧ a.length + 2 ≤ sizeLine ∧ Q (.lst ((Txt.split a b).map DV.str)) O
  | _, _, _, _ => False
theorem md_split {X : Cx} : MtD X "str.split" dSplit := by
  refine ⟨MtR_imp mt_split ?_⟩
  rintro x xs H VQ ⟨F, O, d, ds, Q, rs, rx, rr, h, fin⟩
  unfold dSplit at h
  split at h
  · rename_i a y
    cases rx
    obtain ⟨v, rfl, ry⟩ := rr.one
    cases ry
    refine ⟨_, _, rfl, rfl, h.1, h.2.1, fun p hp => ?_⟩
    have s := rs.new hp (.lst ((Txt.split a y).map V.str))
    exact fin _ _ h.2.2 _ _ _ s (.lst upd_same (Reps.of_strs _))
  · exact h.elim

/-! ### targets -/
def dgName (i : Nat) : DTG := fun d S O Q => Q (S.set i (some d)) O
abbrev DTGs := List DV → DSt → Own → (DSt → Own → Prop) → Prop
def liftGs (K : PySem.W.Frag) (g : DTGs) : TGs := fun vs σ H VQ => ∃ F O S Q ds, RS K F O H ∧ SR K F σ S ∧ Reps K F vs ds ∧ g ds S O Q ∧ FinS K F O H Q VQ
structure DGs (X : Cx) (es : List Expr) (t : DTGs) : Prop where
  pgs : PGs X es (liftGs X.K t)
theorem PGs_imp {X : Cx} {e : List Expr} {t t' : TGs} (h : PGs X e t) (i : ∀ v σ H Q, t' v σ H Q → t v σ H Q) : PGs X e t' := ⟨fun pins s σ H v u Q I r q => h.run pins s σ H v u Q I r (i v σ H Q q)⟩
def dgNil : List DV → DSt → Own → (DSt → Own → Prop) → Prop
  | [], S, O, Q => Q S O
  | _, _, _, _ => False
def dgCons (g : DTG) (u : DTGs) : List DV → DSt → Own → (DSt → Own → Prop) → Prop
  | d :: r, S, O, Q => g d S O fun S' O' => u r S' O' Q
  | [], _, _, _ => False
def dgTup (n : Nat) (t : DTGs) : DV → DSt → Own → (DSt → Own → Prop) → Prop
  | .tup ds, S, O, Q => ds.length = n ∧ t ds S O Q
  | _, _, _, _ => False
def dgLst (n : Nat) (t : DTGs) : DTG := fun d S O Q => sqlQ O d fun ds => ds.length = n ∧ t ds S O Q
section
variable {X : Cx} {pos : Pos} {e : Expr} {es : List Expr} {g : DTG} {u : DTGs}
theorem dg_name (i : Nat) {x : Str} (hN : X.N.Nodup) (hi : X.N[i]? = some x := by rfl) (hx : Loc X.env.scope x := by first | exact Or.inl rfl | exact Or.inr rfl) (hf : X.fn x = true ∨ X.env.scope.names.lookup x = some .local := by first | exact .inl rfl | exact .inr rfl) : DG X (.Name x pos) (dgName i) := by
  refine ⟨PG_imp (pg_name hN hi hx hf) ?_⟩
  rintro v σ H VQ ⟨F, O, S, Q, d, rs, sr, r, h, fin⟩
  exact fin _ _ h _ H F (.refl rs) (sr.set i r)
theorem dgs_nil : DGs X [] dgNil := by
  refine ⟨PGs_imp pgs_nil ?_⟩
  rintro v σ H VQ ⟨F, O, S, Q, ds, rs, sr, r, h, fin⟩
  cases r with
  | nil => exact ⟨rfl, fin _ _ h _ H F (.refl rs) sr⟩
  | cons => exact h.elim
theorem dgs_cons (h1 : DG X e g) (h2 : DGs X es u) (hs : (assignEach (e :: es) X.env).map (·.2) = assign e X.env :: (assignEach es X.env).map (·.2) := by rfl) : DGs X (e :: es) (dgCons g u) := by
  refine ⟨PGs_imp (pgs_cons h1.pg h2.pgs hs) ?_⟩
  rintro v σ H VQ ⟨F, O, S, Q, ds, rs, sr, r, h, fin⟩
  cases r with
  | nil => exact h.elim
  | @cons w d vs ds rw_ r =>
    exact ⟨w, vs, rfl, F, O, S, _, d, rs, sr, rw_, h, fun S1 O1 q1 σ1 H1 F1 s1 sr1 => ⟨F1, O1, S1, Q, ds, s1.rs, sr1, r.mono s1.sub, q1, fin.step s1⟩⟩
theorem dg_tup {k n : Nat} (hc : X.calm = true) (h : DGs X es u) (hn : (assignEach es X.env).length = n := by rfl) (hst : (assignEach es X.env).findIdx? (·.1) = none := by rfl) : DG X (.Tuple es k pos) (dgTup n u) := by
  refine ⟨PG_imp (pg_tup hc h.pgs hn hst) ?_⟩
  rintro v σ H VQ ⟨F, O, S, Q, d, rs, sr, r, h, fin⟩
  cases r with
  | @tup a vs ds e r => exact ⟨a, vs, rfl, SqT.of (rs.tup e), by rw [r.len]; exact h.1, F, O, S, Q, ds, rs, sr, r, h.2, fin⟩
  | _ => exact h.elim
theorem dg_lst {k n : Nat} (hc : X.calm = true) (h : DGs X es u) (hn : (assignEach es X.env).length = n := by rfl) (hst : (assignEach es X.env).findIdx? (·.1) = none := by rfl) : DG X (.Tuple es k pos) (dgLst n u) := by
  refine ⟨PG_imp (pg_lst hc h.pgs hn hst) ?_⟩
  rintro v σ H VQ ⟨F, O, S, Q, d, rs, sr, r, h, fin⟩
  obtain ⟨ds, e, h⟩ := sqlQ_ex h
  obtain ⟨a, vs, rfl, h1, r1⟩ := sqlOf_at rs r e
  exact ⟨a, vs, rfl, h1, by rw [r1.len]; exact h.1, F, O, S, Q, ds, rs, sr, r1, h.2, fin⟩
end
end DL

set_option Elab.async false
set_option linter.all false
set_option maxRecDepth 100000
/-! DLoop: statements, loops, comprehensions, calls, over data. -/
namespace DL
open PySem PySem.Spec PyProof.Rows L2 TL

/-! ### o[i] = v -/
abbrev DSet := DV → DV → DV → Own → (Own → Prop) → Prop
def liftSet (K : PySem.W.Frag) (r : DSet) : TSet := fun o i v H VQ => ∃ F O d e f Q, RS K F O H ∧ Rep K F o d ∧ Rep K F i e ∧ Rep K F v f ∧ r d e f O Q ∧ ∀ O', Q O' → ∀ H' F', Stp K F O H F' O' H' → VQ H'
structure PSetD (X : Cx) (r : DSet) : Prop where
  ps : PSet X (liftSet X.K r)
theorem PSet_imp {X : Cx} {r r' : TSet} (h : PSet X r) (i : ∀ o j v H Q, r' o j v H Q → r o j v H Q) : PSet X r' := fun pins s σ H o i' v ov iv u Q I ro ri rv q => h pins s σ H o i' v ov iv u Q I ro ri rv (i o i' v H Q q)
def dSetL : DV → DV → DV → Own → (Own → Prop) → Prop
  | .ref a, .int k, v, O, Q => onL (O a) fun xs => onSome (ixN xs.length k) fun j => Q (oset O a (.lst (xs.set j v)))
  | _, _, _, _, _ => False
theorem psd_list {X : Cx} : PSetD X dSetL := by
  refine ⟨PSet_imp set_list ?_⟩
  rintro o i v H VQ ⟨F, O, d, e, f, Q, rs, ro, ri, rv, h, fin⟩
  unfold dSetL at h
  split at h
  · rename_i a k
    cases ro; cases ri
    obtain ⟨xs, e, h⟩ := onL_ex h
    obtain ⟨j, e2, h⟩ := onSome_ex h
    obtain ⟨_, vs, h1, r1⟩ := rs.own a _ e
    exact ⟨a, vs, k, j, rfl, rfl, h1, by rw [r1.len]; exact e2, fin _ h _ F (rs.write e ⟨_, upd_same, r1.set rv j⟩)⟩
  · exact h.elim
def dgSub (to ti : DTE) (t : DSet) : DTG := fun v S O Q => to S O fun o O1 => ti S O1 fun i O2 => t o i v O2 fun O3 => Q S O3
theorem dg_sub {X : Cx} {o i : Expr} {to ti : DTE} {t : DSet} {pos : Pos} (ho : DE X o to) (hi : DE X i ti) (hs : PSetD X t)
    (ha : ∀ v, assign (.Subscript o i pos) X.env v = (do
      let ov ← holding [v] (eval o X.env)
      let iv ← holding [v, ov] (eval i X.env)
      standAt pos
      holding [v, ov, iv] (setItem ov iv v)
      release [v, ov, iv] []) := by intro _; rfl) : DG X (.Subscript o i pos) (dgSub to ti t) := by
  refine ⟨PG_imp (pg_sub ho.pe hi.pe hs.ps ha) ?_⟩
  rintro v σ H VQ ⟨F, O, S, Q, d, rs, sr, r, h, fin⟩
  exact ⟨F, O, S, _, rs, sr, h, fun d1 O1 h1 v1 H1 F1 s1 r1 => ⟨F1, O1, S, _, s1.rs, sr.mono s1.sub, h1, fun d2 O2 h2 v2 H2 F2 s2 r2 =>
    ⟨F2, O2, d1, d2, d, _, s2.rs, r1.mono s2.sub, r2, r.mono (s1.trans s2).sub, h2, fun O3 h3 H3 F3 s3 => fin _ _ h3 _ H3 F3 (s1.trans (s2.trans s3)) (sr.mono (s1.trans (s2.trans s3)).sub)⟩⟩⟩

/-! ### statements -/
def dNext : DTS := fun D S O => D.nx S O
def dSeq (t u : DTS) : DTS := fun D S O => t { D with nx := u D } S O
def dBreak : DTS := fun D S O => D.bk S O
def dCont : DTS := fun D S O => D.ct S O
def dNever : DTS := fun _ _ _ => False
def dDrop (te : DTE) : DTS := fun D S O => te S O fun _ O1 => D.nx S O1
def dRet (te : DTE) : DTS := fun D S O => te S O D.rt
def dRetN : DTS := fun D _ O => D.rt .non O
def dIfS (c : DTT) (t u : DTS) : DTS := fun D S O => c S O fun b O1 => if b = true then t D S O1 else u D S O1
def dAsg (te : DTE) (g : DTG) : DTS := fun D S O => te S O fun x O1 => g x S O1 D.nx
def dAug (i : Nat) (te : DTE) (r : DR2) : DTS := fun D S O => onSome (slot S i) fun x => te S O fun y O1 => r x y O1 fun z O2 => D.nx (S.set i (some z)) O2
/-- what is frozen of an owned cell -/
def frzC : Option Cell → (DV → Prop) → Prop
  | some (.lst xs), K => K (.lst xs)
  | some (.dK xs), K => K (.dK xs)
  | some (.dT xs), K => K (.dT xs)
  | _, _ => False
theorem frzC_at {K : PySem.W.Frag} {F H : Hp} {O : Own} {p : Addr} {R : DV → Prop} (rs : RS K F O H) (h : frzC (O p) R) : ∃ d F', R d ∧ Stp K F O H F' (odel O p) H ∧ Rep K F' (.ref p) d := by
  unfold frzC at h
  split at h
  · rename_i xs e
    obtain ⟨F2, s2, r2⟩ := rs.freezeL e
    exact ⟨_, F2, h, s2, r2⟩
  · rename_i xs e
    obtain ⟨F2, s2, r2⟩ := rs.freezeK e
    exact ⟨_, F2, h, s2, r2⟩
  · rename_i xs e
    obtain ⟨F2, s2, r2⟩ := rs.freezeT e
    exact ⟨_, F2, h, s2, r2⟩
  · exact h.elim
def kRef (Q : Addr → Own → Prop) : DV → Own → Prop
  | .ref a, O => Q a O
  | _, _ => False
theorem kRef_ex {Q : Addr → Own → Prop} {d : DV} {O : Own} (h : kRef Q d O) : ∃ a, d = .ref a ∧ Q a O := by
  unfold kRef at h
  split at h
  · exact ⟨_, rfl, h⟩
  · exact h.elim
/-- the owned thing in the i-th slot is frozen ahead -/
def dFrz (i : Nat) (t : DTS) : DTS := fun D S O => onSome (slot S i) fun x => kRef (fun a O => frzC (O a) fun d => t D (S.set i (some d)) (odel O a)) x O
/-- what is given back: an owned list, dict is frozen -/
def dRetF (te : DTE) : DTS := fun D S O => te S O (kRef fun a O1 => frzC (O1 a) fun d => D.rt d (odel O1 a))
section
variable {X : Cx} {st : Stmt} {rest : List Stmt} {t u : DTS} {e : Expr} {te : DTE} {pos : Pos} {g : DTG}
theorem dss_nil : DSs X [] dNext := ⟨PSs_imp pss_nil fun VD σ H ⟨F, O, S, D, rs, sr, h, fin⟩ => fin.nx _ _ h σ H F (.refl rs) sr⟩
theorem dss_cons (h1 : DS X st t) (h2 : DSs X rest u) : DSs X (st :: rest) (dSeq t u) := by
  refine ⟨PSs_imp (pss_cons h1.ps h2.ps) ?_⟩
  rintro VD σ H ⟨F, O, S, D, rs, sr, h, fin⟩
  exact ⟨F, O, S, _, rs, sr, h, ⟨fun S1 O1 h1 σ1 H1 F1 s1 sr1 => ⟨F1, O1, S1, D, s1.rs, sr1, h1, fin.step s1⟩, fin.rt, fin.bk, fin.ct⟩⟩
theorem dss_one (h1 : DS X st t) : DSs X [st] t := ⟨pss_one h1.ps⟩
theorem ds_pass : DS X (.Pass pos) dNext := ⟨PS_imp ps_pass fun VD σ H ⟨F, O, S, D, rs, sr, h, fin⟩ => fin.nx _ _ h σ H F (.refl rs) sr⟩
theorem ds_break : DS X (.Break pos) dBreak := ⟨PS_imp ps_break fun VD σ H ⟨F, O, S, D, rs, sr, h, fin⟩ => fin.bk _ _ h σ H F (.refl rs) sr⟩
theorem ds_continue : DS X (.Continue pos) dCont := ⟨PS_imp ps_continue fun VD σ H ⟨F, O, S, D, rs, sr, h, fin⟩ => fin.ct _ _ h σ H F (.refl rs) sr⟩
theorem ds_never : DS X st dNever := ⟨PS_imp ps_never fun VD σ H ⟨F, O, S, D, rs, sr, h, fin⟩ => h⟩
theorem dss_never : DSs X rest dNever := ⟨PSs_imp pss_never fun VD σ H ⟨F, O, S, D, rs, sr, h, fin⟩ => h⟩
theorem ds_expr (he : DE X e te) (hs : swapsWith e none pos.line X.env = pure false := by rfl) : DS X (.Expr e pos) (dDrop te) := by
  refine ⟨PS_imp (ps_expr he.pe hs) ?_⟩
  rintro VD σ H ⟨F, O, S, D, rs, sr, h, fin⟩
  exact ⟨F, O, S, _, rs, sr, h, fun d O1 h1 v H1 F1 s1 rv => fin.nx _ _ h1 σ H1 F1 s1 (sr.mono s1.sub)⟩
theorem ds_ret (he : DE X e te) : DS X (.Return (some e) pos) (dRet te) := by
  refine ⟨PS_imp (ps_ret he.pe) ?_⟩
  rintro VD σ H ⟨F, O, S, D, rs, sr, h, fin⟩
  exact ⟨F, O, S, _, rs, sr, h, fin.rt⟩
theorem ds_retF (he : DE X e te) : DS X (.Return (some e) pos) (dRetF te) := by
  refine ⟨PS_imp (ps_ret he.pe) ?_⟩
  rintro VD σ H ⟨F, O, S, D, rs, sr, h, fin⟩
  refine ⟨F, O, S, _, rs, sr, h, fun d O1 h1 v H1 F1 s1 rv => ?_⟩
  obtain ⟨a, rfl, h1⟩ := kRef_ex h1
  cases rv
  obtain ⟨d, F2, h2, s2, r2⟩ := frzC_at s1.rs h1
  exact fin.rt _ _ h2 _ H1 F2 (s1.trans s2) r2
theorem ds_retN : DS X (.Return none pos) dRetN := ⟨PS_imp ps_retN fun VD σ H ⟨F, O, S, D, rs, sr, h, fin⟩ => fin.rt _ _ h _ H F (.refl rs) .non⟩
theorem SR.put {K : PySem.W.Frag} {F : Hp} {σ : L2.St} {S : DSt} {v : V} {d : DV} (h : SR K F σ S) (i : Nat) (e : σ[i]? = some (some v)) (r : Rep K F v d) : SR K F σ (S.set i (some d)) := by
  refine ⟨by simp [h.1], fun j f q => ?_⟩
  by_cases hj : j = i
  · subst hj
    have hl : j < S.length := by
      have := (List.getElem?_eq_some_iff.mp q).1
      simpa using this
    rw [List.getElem?_set_self hl] at q
    cases q
    exact ⟨v, e, r⟩
  · rw [List.getElem?_set_ne (Ne.symm hj)] at q
    exact h.2 j f q
theorem ds_frz (i : Nat) (h : DS X st t) : DS X st (dFrz i t) := by
  refine ⟨PS_imp h.ps ?_⟩
  rintro VD σ H ⟨F, O, S, D, rs, sr, h, fin⟩
  obtain ⟨x, e, h⟩ := onSome_ex h
  obtain ⟨a, rfl, h⟩ := kRef_ex h
  obtain ⟨v, h1, r1⟩ := sr.2 i _ (slot_get e)
  cases r1
  obtain ⟨d, F2, h2, s2, r2⟩ := frzC_at rs h
  exact ⟨F2, _, _, D, s2.rs, SR.put (sr.mono s2.sub) i h1 r2, h2, fin.step s2⟩
theorem ds_if {c : Expr} {a b : List Stmt} {tc : DTT} (hc : DT X c tc) (ha : DSs X a t) (hb : DSs X b u) : DS X (.If c a b pos) (dIfS tc t u) := by
  refine ⟨PS_imp (ps_if hc.pt ha.ps hb.ps) ?_⟩
  rintro VD σ H ⟨F, O, S, D, rs, sr, h, fin⟩
  refine ⟨F, O, S, _, rs, sr, h, fun c O1 h1 H1 F1 s1 => ?_⟩
  dsimp only at h1 ⊢
  split
  · rename_i e; rw [if_pos e] at h1
    exact ⟨F1, O1, S, D, s1.rs, sr.mono s1.sub, h1, fin.step s1⟩
  · rename_i e; rw [if_neg e] at h1
    exact ⟨F1, O1, S, D, s1.rs, sr.mono s1.sub, h1, fin.step s1⟩
theorem ds_set (i : Nat) {x : Str} {pos' : Pos} (he : DE X e te) (hN : X.N.Nodup) (hi : X.N[i]? = some x := by rfl) (hx : Loc X.env.scope x := by first | exact Or.inl rfl | exact Or.inr rfl) (hs : swapsWith e (some (.Name x pos')) pos.line X.env = pure false := by rfl)
    (hf : X.fn x = true ∨ X.env.scope.names.lookup x = some .local := by first | exact .inl rfl | exact .inr rfl) : DS X (.Assign [.Name x pos'] e pos) (dAsg te (dgName i)) := by
  refine ⟨PS_imp (ps_set hN hi hx he.pe hs hf) ?_⟩
  rintro VD σ H ⟨F, O, S, D, rs, sr, h, fin⟩
  exact ⟨F, O, S, _, rs, sr, h, fun d O1 h1 v H1 F1 s1 rv => fin.nx _ _ h1 _ H1 F1 s1 ((sr.mono s1.sub).set i rv)⟩
theorem ds_asg {tg : Expr} (he : DE X e te) (hg : DG X tg g) (hs : swapsWithSole [tg] e pos.line X.env = pure false := by rfl) (hw : swappedStores [tg] e X.env = pure none := by rfl)
    (h1 : (assignEach [tg] X.env).map (·.2) = [assign tg X.env] := by rfl) : DS X (.Assign [tg] e pos) (dAsg te g) := by
  refine ⟨PS_imp (ps_asg he.pe hg.pg hs hw h1) ?_⟩
  rintro VD σ H ⟨F, O, S, D, rs, sr, h, fin⟩
  exact ⟨F, O, S, _, rs, sr, h, fun d O1 h1 v H1 F1 s1 rv => ⟨F1, O1, S, _, d, s1.rs, sr.mono s1.sub, rv, h1, fin.nx.step s1⟩⟩
def kPar (i j : Nat) (nx : DSt → Own → Prop) (S : DSt) : List DV → Own → Prop
  | [v, w], O1 => nx ((S.set i (some v)).set j (some w)) O1
  | _, _ => False
theorem kPar_e1 {i j : Nat} {nx : DSt → Own → Prop} {S : DSt} {v w : DV} {O : Own} : kPar i j nx S [v, w] O = nx ((S.set i (some v)).set j (some w)) O := rfl
def dPar (i j : Nat) (ta : DTA) : DTS := fun D S O => ta S O (kPar i j D.nx S)
/-- a, b = x, y with plain local names -/
theorem ds_par (i j : Nat) {x y : Str} {a b : Expr} {ta : DTA} {px py pt : Pos} {kt k2 pt2} (hN : X.N.Nodup) (ha : DA X [a, b] ta) (hc : X.calm = true := by rfl) (hi : X.N[i]? = some x := by rfl) (hj : X.N[j]? = some y := by rfl) (hij : i ≠ j := by decide)
    (hx : X.env.scope.names.lookup x = some .local := by rfl) (hy : X.env.scope.names.lookup y = some .local := by rfl)
    (hw : swappedStores [.Tuple [.Name x px, .Name y py] kt pt] (.Tuple [a, b] k2 pt2) X.env = pure (some [x, y]) := by rfl)
    (hs : swapsWithSole [.Tuple [.Name x px, .Name y py] kt pt] (.Tuple [a, b] k2 pt2) pos.line X.env = pure false := by rfl) :
    DS X (.Assign [.Tuple [.Name x px, .Name y py] kt pt] (.Tuple [a, b] k2 pt2) pos) (dPar i j ta) := by
  refine ⟨PS_imp (ps_par hc hN hi hj hij hx hy ha.pa hw hs) ?_⟩
  rintro VD σ H ⟨F, O, S, D, rs, sr, h, fin⟩
  refine ⟨F, O, S, _, rs, sr, h, fun ds O1 h1 vs H1 F1 s1 r1 => ?_⟩
  unfold kPar at h1
  split at h1
  · cases r1 with
    | cons ra r1 =>
      cases r1 with
      | cons rb r1 =>
        cases r1
        exact ⟨_, _, rfl, fin.nx _ _ h1 _ H1 F1 s1 (((sr.mono s1.sub).set i ra).set j rb)⟩
  · exact h1.elim
theorem ds_aug (i : Nat) {x : Str} {op : Operator} {r : DR2} {pos' : Pos} (ho : OpD X (inplaceOp op) r) (he : DE X e te) (hN : X.N.Nodup) (hi : X.N[i]? = some x := by rfl) (hx : Loc X.env.scope x := by first | exact Or.inl rfl | exact Or.inr rfl)
    (hf : X.fn x = true ∨ X.env.scope.names.lookup x = some .local := by first | exact .inl rfl | exact .inr rfl) : DS X (.AugAssign (.Name x pos') op e pos) (dAug i te r) := by
  refine ⟨PS_imp (ps_aug hN hi hx he.pe ho.op hf) ?_⟩
  rintro VD σ H ⟨F, O, S, D, rs, sr, h, fin⟩
  obtain ⟨d, e, h⟩ := onSome_ex h
  obtain ⟨v, h1, r1⟩ := sr.2 i d (slot_get e)
  exact ⟨v, h1, F, O, S, _, rs, sr, h, fun d2 O2 h2 v2 H2 F2 s2 r2 => ⟨F2, O2, d, d2, _, s2.rs, r1.mono s2.sub, r2, h2, fun d3 O3 h3 v3 H3 F3 s3 r3 => fin.nx _ _ h3 _ H3 F3 (s2.trans s3) ((sr.mono (s2.trans s3).sub).set i r3)⟩⟩
end
def dIAdd : DV → DV → Own → DVK → Prop
  | .int i, .int j, O, Q => Q (.int (i + j)) O
  | .str a, .str b, O, Q => a.length + b.length ≤ sizeLine ∧ Q (.str (a ++ b)) O
  | _, _, _, _ => False
theorem od_iadd {X : Cx} : OpD X (inplaceOp .Add) dIAdd := by
  refine ⟨OpR_imp (iop_add.or iop_add_str) ?_⟩
  rintro x y H VQ ⟨F, O, dx, dy, Q, rs, rx, ry, h, fin⟩
  unfold dIAdd at h
  split at h
  · cases rx; cases ry
    exact .inl ⟨_, _, rfl, rfl, fin _ _ h _ _ F (.refl rs) (.int _)⟩
  · cases rx; cases ry
    exact .inr ⟨_, _, rfl, rfl, h.1, fin _ _ h.2 _ _ F (.refl rs) (.str _)⟩
  · exact h.elim
def dISub : DV → DV → Own → DVK → Prop
  | .int i, .int j, O, Q => Q (.int (i - j)) O
  | _, _, _, _ => False
theorem od_isub {X : Cx} : OpD X (inplaceOp .Sub) dISub := by
  refine ⟨OpR_imp iop_sub ?_⟩
  rintro x y H VQ ⟨F, O, dx, dy, Q, rs, rx, ry, h, fin⟩
  unfold dISub at h
  split at h
  · cases rx; cases ry
    exact ⟨_, _, rfl, rfl, fin _ _ h _ _ F (.refl rs) (.int _)⟩
  · exact h.elim

/-! ### while -/
def whileW (c : DTT) (tb : DTS) (D : DEnds) : Nat → DSt → Own → Prop
  | 0, _, _ => False
  | n + 1, S, O => c S O fun b O1 => if b = true then tb { D with nx := whileW c tb D n, ct := whileW c tb D n, bk := D.nx } S O1 else D.nx S O1
def dWhile (c : DTT) (tb : DTS) : DTS := fun D S O => ∃ n, whileW c tb D n S O
theorem ds_while {X : Cx} {c : Expr} {body : List Stmt} {tc : DTT} {tb : DTS} {pos : Pos} (hp : PassesOwn (model X.prog X.w) X.A X.env X.xe) (hc : DT X c tc) (hb : DSs X body tb) : DS X (.While c body [] pos) (dWhile tc tb) := by
  refine ⟨PS_imp (ps_while hp hc.pt hb.ps) ?_⟩
  rintro VD σ H ⟨F, O, S, D, rs, sr, ⟨n, h⟩, fin⟩
  refine ⟨fun m σ' H' => ∃ F' O' S', Stp X.K F O H F' O' H' ∧ SR X.K F' σ' S' ∧ whileW tc tb D m S' O', ⟨n, F, O, S, .refl rs, sr, h⟩, ?_⟩
  rintro m σ' H' ⟨F', O', S', s', sr', h'⟩
  cases m with
  | zero => exact h'.elim
  | succ m =>
    refine ⟨F', O', S', _, s'.rs, sr', h', fun b O1 h1 H1 F1 s1 => ?_⟩
    dsimp only at h1 ⊢
    split
    · rename_i e; rw [if_pos e] at h1
      refine ⟨fun σ2 H2 => ∃ F2 O2 S2, Stp X.K F O H F2 O2 H2 ∧ SR X.K F2 σ2 S2 ∧ whileW tc tb D m S2 O2, fun σ2 H2 q => ⟨m, Nat.lt_succ_self m, q⟩, F1, O1, S', _, s1.rs, sr'.mono s1.sub, h1, ?_⟩
      have st := s'.trans s1
      refine ⟨fun S2 O2 h2 σ2 H2 F2 s2 sr2 => ⟨F2, O2, S2, st.trans s2, sr2, h2⟩, fin.rt.step st, fin.nx.step st, fun S2 O2 h2 σ2 H2 F2 s2 sr2 => ⟨F2, O2, S2, st.trans s2, sr2, h2⟩⟩
    · rename_i e; rw [if_neg e] at h1
      exact fin.nx _ _ h1 _ H1 F1 (s'.trans s1) (sr'.mono s1.sub)

/-! ### for -/
def forW (g : DTG) (tb : DTS) (D : DEnds) : List DV → DSt → Own → Prop
  | [], S, O => D.nx S O
  | x :: r, S, O => g x S O fun S2 O2 => tb { D with nx := forW g tb D r, ct := forW g tb D r, bk := D.nx } S2 O2
def dFor (di : DTI) (g : DTG) (tb : DTS) : DTS := fun D S O => di S O fun ds O1 => forW g tb D ds S O1
theorem ds_for {X : Cx} {tg iter : Expr} {body : List Stmt} {di : DTI} {g : DTG} {tb : DTS} {pos : Pos} (hp : PassesOwn (model X.prog X.w) X.A X.env X.xe) (hc : X.calm = true) (hi : DI X tg iter di) (hg : DG X tg g) (hb : DSs X body tb)
    (hs : ∀ x, foldedSetIterable iter X.env x = pure x := by intro _; rfl) : DS X (.For tg iter body [] pos) (dFor di g tb) := by
  refine ⟨PS_imp (ps_for hp hc hi.pi hg.pg hb.ps hs) ?_⟩
  rintro VD σ H ⟨F, O, S, D, rs, sr, h, fin⟩
  refine ⟨F, O, S, _, rs, sr, h, fun ds O1 h1 J H1 F1 s1 y => ?_⟩
  refine ⟨fun i m σ' H' => m = ds.length - i ∧ ∃ F' O' S', Stp X.K F1 O1 H1 F' O' H' ∧ SR X.K F' σ' S' ∧ forW g tb D (ds.drop i) S' O', ⟨_, rfl, F1, O1, S, .refl s1.rs, sr.mono s1.sub, h1⟩, ?_⟩
  rintro i m σ' H' ⟨em, F', O', S', s', sr', h'⟩
  obtain ⟨y1, y2⟩ := y i O' H' F' s'.sub s'.rs
  by_cases hi : i < ds.length
  · have e0 : ds[i]? = some ds[i] := List.getElem?_eq_getElem hi
    rw [List.drop_eq_getElem_cons hi] at h'
    obtain ⟨hg, hy⟩ := y1 _ e0
    refine .inr ⟨hg, fun σ2 H2 => ∃ F2 O2 S2, Stp X.K F1 O1 H1 F2 O2 H2 ∧ SR X.K F2 σ2 S2 ∧ forW g tb D (ds.drop (i + 1)) S2 O2, fun σ2 H2 q => ⟨_, ?_, rfl, q⟩, fun x H2 q => ?_⟩
    · omega
    · obtain ⟨F3, s3, r3⟩ := hy x H2 q
      refine ⟨F3, O', S', _, _, s3.rs, sr'.mono s3.sub, r3, h', fun S4 O4 h4 σ4 H4 F4 s4 sr4 => ⟨F4, O4, S4, _, s4.rs, sr4, h4, ?_⟩⟩
      have st := s'.trans (s3.trans s4)
      refine ⟨fun S2 O2 h2 σ2 H2 F2 s2 sr2 => ⟨F2, O2, S2, st.trans s2, sr2, h2⟩, (fin.step s1).rt.step st, (fin.step s1).nx.step st, fun S2 O2 h2 σ2 H2 F2 s2 sr2 => ⟨F2, O2, S2, st.trans s2, sr2, h2⟩⟩
  · rw [List.drop_eq_nil_of_le (by omega)] at h'
    exact .inl ⟨y2 (by omega), fin.nx _ _ h' _ H' F' (s1.trans s') sr'⟩
/-- a while by a word over parameters x : α (the slots f x, the owned things o x) -/
theorem dWhile_by {c : DTT} {tb : DTS} {D : DEnds} {S : DSt} {O : Own} {α : Type} (f : α → DSt) (o : α → Own) (I : α → Prop) (μ : α → Nat) (x0 : α) (hS : f x0 = S) (hO : o x0 = O) (h0 : I x0)
    (step : ∀ (x : α) (nx : DSt → Own → Prop), I x → (∀ y, I y → μ y < μ x → nx (f y) (o y)) → c (f x) (o x) fun b O1 => if b = true then tb { D with nx := nx, ct := nx, bk := D.nx } (f x) O1 else D.nx (f x) O1) : dWhile c tb D S O := by
  have key : ∀ (n : Nat) (x : α), μ x < n → I x → whileW c tb D n (f x) (o x) := by
    intro n
    induction n with
    | zero => intro x h; omega
    | succ n ih => intro x h hI; exact step x _ hI fun y hy hm => ih y (by omega) hy
  subst hS; subst hO
  exact ⟨_, key (μ x0 + 1) x0 (Nat.lt_succ_self _) h0⟩
/-- a for by a word -/
theorem forW_by {g : DTG} {tb : DTS} {D : DEnds} {α : Type} (f : α → DSt) (o : α → Own) (ds : List DV) (I : Nat → α → Prop)
    (step : ∀ (i : Nat) (x : α) (d : DV) (nx : DSt → Own → Prop), ds[i]? = some d → I i x → (∀ y, I (i + 1) y → nx (f y) (o y)) → g d (f x) (o x) fun S2 O2 => tb { D with nx := nx, ct := nx, bk := D.nx } S2 O2)
    (done : ∀ x, I ds.length x → D.nx (f x) (o x)) (x0 : α) {S : DSt} {O : Own} (hS : f x0 = S) (hO : o x0 = O) (h0 : I 0 x0) : forW g tb D ds S O := by
  have key : ∀ (n i : Nat) (x : α), i + n = ds.length → I i x → forW g tb D (ds.drop i) (f x) (o x) := by
    intro n
    induction n with
    | zero =>
      intro i x h hI
      rw [List.drop_eq_nil_of_le (by omega)]
      have : i = ds.length := by omega
      subst this
      exact done x hI
    | succ n ih =>
      intro i x h hI
      have hi : i < ds.length := by omega
      rw [List.drop_eq_getElem_cons hi]
      exact step i x _ _ (List.getElem?_eq_getElem hi) hI fun y hy => ih (i + 1) y (by omega) hy
  subst hS; subst hO
  exact key ds.length 0 x0 (by omega) h0
end DL

set_option Elab.async false
set_option linter.all false
set_option maxRecDepth 100000
/-! DComp: what is walked, comprehensions, calls of defs, over data. -/
namespace DL
open PySem PySem.Spec PyProof.Rows L2 TL

/-! ### what is walked -/
theorem yields_lst {K : PySem.W.Frag} {F : Hp} {a : Addr} {vs : List V} {ds : List DV} (h : ∀ (O : Own) (H F2 : Hp), Sub F F2 → RS K F2 O H → SqL K H a vs)  (r : Reps K F vs ds) : Yields K F (Itl K a) ds := by
  intro i O H F2 s rs
  have h0 := h O H F2 s rs
  refine ⟨fun d e => ?_, fun e => ⟨vs, h0, by rw [r.len]; exact e⟩⟩
  obtain ⟨v, h1, h2⟩ := r.get e
  refine ⟨⟨vs, v, h0, h1⟩, fun x H' ⟨q1, q2⟩ => ?_⟩
  subst q1
  have := q2 vs h0
  rw [h1] at this; cases this
  exact ⟨F2, .refl rs, h2.mono s⟩
def kLst (Q : List DV → Own → Prop) : DV → Own → Prop
  | .lst xs, O' => Q xs O'
  | .slst xs, O' => Q xs O'
  | _, _ => False
def kTup (Q : List DV → Own → Prop) : DV → Own → Prop
  | .tup xs, O' => Q xs O'
  | .stup xs, O' => Q xs O'
  | _, _ => False
def kStr (Q : Str → Own → Prop) : DV → Own → Prop
  | .str x, O' => Q x O'
  | _, _ => False
def kRng1 (Q : List DV → Own → Prop) : List DV → Own → Prop
  | [.int j], O' => (-(2 ^ 62) ≤ j ∧ j < 2 ^ 62) ∧ Q ((List.range j.toNat).map fun (k : Nat) => .int (k : Int)) O'
  | _, _ => False
def kRng2 (Q : List DV → Own → Prop) : List DV → Own → Prop
  | [.int i, .int j], O' => (-(2 ^ 62) ≤ i ∧ i < 2 ^ 62 ∧ -(2 ^ 62) ≤ j ∧ j < 2 ^ 62) ∧ Q ((List.range (j - i).toNat).map fun (k : Nat) => .int (i + (k : Int))) O'
  | _, _ => False
def dILst (t : DTE) : DTI := fun S O Q => t S O (kLst Q)
def dITup (t : DTE) : DTI := fun S O Q => t S O (kTup Q)
def dIStr (t : DTE) : DTI := fun S O Q => t S O (kStr fun x O' => Q ((tl x).map fun c => .str ⟨#[c]⟩) O')
def dIRng1 (t : DTA) : DTI := fun S O Q => t S O (kRng1 Q)
def dIRng2 (t : DTA) : DTI := fun S O Q => t S O (kRng2 Q)
def enumD : Nat → List DV → List DV
  | _, [] => []
  | n, x :: r => .tup [.int (n : Int), x] :: enumD (n + 1) r
theorem enumD_get : ∀ {xs : List DV} {n i : Nat}, (enumD n xs)[i]? = (xs[i]?).map fun x => .tup [.int ((n + i : Nat) : Int), x]
  | [], _, _ => by simp [enumD]
  | x :: r, n, 0 => by simp [enumD]
  | x :: r, n, i + 1 => by
    have := enumD_get (xs := r) (n := n + 1) (i := i)
    simp only [enumD, List.getElem?_cons_succ, this]
    rw [Nat.add_right_comm n 1 i]; rfl
theorem enumD_len : ∀ {xs : List DV} {n : Nat}, (enumD n xs).length = xs.length
  | [], _ => rfl
  | x :: r, n => by simp [enumD, enumD_len (xs := r)]
def kEnum (Q : List DV → Own → Prop) : List DV → Own → Prop
  | [.lst xs], O' => Q (enumD 0 xs) O'
  | [.slst xs], O' => Q (enumD 0 xs) O'
  | _, _ => False
def dIEnum (t : DTA) : DTI := fun S O Q => t S O (kEnum Q)
def zipD : List DV → List DV → List DV
  | x :: r, y :: q => .tup [x, y] :: zipD r q
  | _, _ => []
theorem zipD_get : ∀ {xs ys : List DV} {i : Nat} {d : DV}, (zipD xs ys)[i]? = some d → ∃ x y, xs[i]? = some x ∧ ys[i]? = some y ∧ d = .tup [x, y]
  | x :: r, y :: q, 0, d, h => by simp [zipD] at h; exact ⟨x, y, rfl, rfl, h.symm⟩
  | x :: r, y :: q, i + 1, d, h => by
    simp only [zipD, List.getElem?_cons_succ] at h
    simpa using zipD_get (xs := r) (ys := q) h
  | [], _, _, _, h => by simp [zipD] at h
  | _ :: _, [], _, _, h => by simp [zipD] at h
theorem zipD_len : ∀ {xs ys : List DV}, (zipD xs ys).length = min xs.length ys.length
  | x :: r, y :: q => by simp [zipD, zipD_len (xs := r) (ys := q)]
  | [], _ => by simp [zipD]
  | _ :: _, [] => by simp [zipD]
def kZip (Q : List DV → Own → Prop) : List DV → Own → Prop
  | [.lst xs, .lst ys], O' => Q (zipD xs ys) O'
  | _, _ => False
def dIZip (t : DTA) : DTI := fun S O Q => t S O (kZip Q)
section
variable {X : Cx} {tg e e2 : Expr} {te : DTE} {ta : DTA} {p pos tpos : Pos}
theorem di_list (h : DE X e te) : DI X tg e (dILst te) := by
  refine ⟨PI_imp (pi_list h.pe) ?_⟩
  rintro σ H R ⟨F, O, S, Q, rs, sr, h, fin⟩
  refine ⟨F, O, S, _, rs, sr, h, fun d O1 h1 v H1 F1 s1 rv => ?_⟩
  cases rv with
  | @lst a vs ds e r => exact ⟨a, rfl, ⟨vs, SqL.of (s1.rs.lst e)⟩, fin _ _ h1 _ H1 F1 s1 (yields_lst (vs := vs) (fun O H F2 s rs => SqL.of (rs.lst (s _ _ e))) r)⟩
  | @slst a vs ds e r => exact ⟨a, rfl, ⟨vs, s1.rs.sqL e⟩, fin _ _ h1 _ H1 F1 s1 (yields_lst (vs := vs) (fun O H F2 s rs => rs.sqL (SqL.sub s e)) r)⟩
  | _ => exact h1.elim
theorem di_tup (h : DE X e te) : DI X tg e (dITup te) := by
  refine ⟨PI_imp (pi_tup h.pe) ?_⟩
  rintro σ H R ⟨F, O, S, Q, rs, sr, h, fin⟩
  refine ⟨F, O, S, _, rs, sr, h, fun d O1 h1 v H1 F1 s1 rv => ?_⟩
  cases rv with
  | @tup a vs ds e r =>
    refine ⟨a, rfl, ⟨vs, SqT.of (s1.rs.tup e)⟩, fin _ _ h1 _ H1 F1 s1 ?_⟩
    intro i O H F2 s rs
    have h0 := SqT.of (K := X.K) (rs.tup (s _ _ e))
    refine ⟨fun d e => ?_, fun e => ⟨vs, h0, by rw [r.len]; exact e⟩⟩
    obtain ⟨v, h1, h2⟩ := r.get e
    refine ⟨⟨vs, v, h0, h1⟩, fun x H' ⟨q1, q2⟩ => ?_⟩
    subst q1
    have := q2 vs h0
    rw [h1] at this; cases this
    exact ⟨F2, .refl rs, h2.mono s⟩
  | @stup a vs ds e r =>
    refine ⟨a, rfl, ⟨vs, s1.rs.sqT e⟩, fin _ _ h1 _ H1 F1 s1 ?_⟩
    intro i O H F2 s rs
    have h0 := rs.sqT (SqT.sub s e)
    refine ⟨fun d e => ?_, fun e => ⟨vs, h0, by rw [r.len]; exact e⟩⟩
    obtain ⟨v, h1, h2⟩ := r.get e
    refine ⟨⟨vs, v, h0, h1⟩, fun x H' ⟨q1, q2⟩ => ?_⟩
    subst q1
    have := q2 vs h0
    rw [h1] at this; cases this
    exact ⟨F2, .refl rs, h2.mono s⟩
  | _ => exact h1.elim
theorem di_str (h : DE X e te) : DI X tg e (dIStr te) := by
  refine ⟨PI_imp (pi_str h.pe) ?_⟩
  rintro σ H R ⟨F, O, S, Q, rs, sr, h, fin⟩
  refine ⟨F, O, S, _, rs, sr, h, fun d O1 h1 v H1 F1 s1 rv => ?_⟩
  cases rv with
  | str z =>
    refine ⟨z, rfl, fin _ _ h1 _ H1 F1 s1 ?_⟩
    intro i O H F2 s rs
    have hl : (tl z).length = z.cps.size := by simp [TL.tl]
    refine ⟨fun d e => ?_, fun e => by show z.cps.size ≤ i; simpa [hl] using e⟩
    rw [List.getElem?_map] at e
    have hi : i < (tl z).length := by
      rcases Nat.lt_or_ge i (tl z).length with q | q
      · exact q
      · rw [List.getElem?_eq_none q] at e; cases e
    refine ⟨by show i < z.cps.size; omega, fun x H' ⟨q1, c, q2, q3⟩ => ?_⟩
    subst q1; subst q3
    have q4 : (tl z)[i]? = some c := by simpa [TL.tl] using q2
    rw [q4] at e; cases e
    exact ⟨F2, .refl rs, .str _⟩
  | _ => exact h1.elim
theorem yields_rng {K : PySem.W.Frag} {F : Hp} (lo : Int) (n : Nat) : Yields K F (Itr lo n) ((List.range n).map fun (k : Nat) => .int (lo + (k : Int))) := by
  intro i O H F2 s rs
  refine ⟨fun d e => ?_, fun e => by show n ≤ i; simpa using e⟩
  rw [List.getElem?_map] at e
  have hi : i < n := by
    rcases Nat.lt_or_ge i n with q | q
    · exact q
    · rw [List.getElem?_eq_none (by simpa using q)] at e; cases e
  rw [List.getElem?_range hi] at e
  cases e
  exact ⟨hi, fun x H' ⟨q1, q2⟩ => by subst q1; subst q2; exact ⟨F2, .refl rs, .int _⟩⟩
theorem di_range1 (hm : X.mg "range" = none) (ha : DA X [e] ta) (hg : Gl X "range" := by rfl) (hs : starEach [e] X.env = [(false, eval e X.env)] := by rfl) : DI X tg (.Call (.Name "range" p) [e] [] pos) (dIRng1 ta) := by
  refine ⟨PI_imp (pi_range1 hg hm ha.pa hs) ?_⟩
  rintro σ H R ⟨F, O, S, Q, rs, sr, h, fin⟩
  refine ⟨F, O, S, _, rs, sr, h, fun ds O1 h1 vs H1 F1 s1 rr => ?_⟩
  unfold kRng1 at h1
  split at h1
  · rename_i j
    obtain ⟨v, rfl, r⟩ := rr.one
    cases r
    refine ⟨j, rfl, h1.1.1, h1.1.2, fin _ _ h1.2 _ H1 F1 s1 ?_⟩
    have := yields_rng (K := X.K) (F := F1) 0 j.toNat
    simpa using this
  · exact h1.elim
theorem di_range2 (hm : X.mg "range" = none) (ha : DA X [e, e2] ta) (hg : Gl X "range" := by rfl) (hs : starEach [e, e2] X.env = [(false, eval e X.env), (false, eval e2 X.env)] := by rfl) (hs2 : starEach [e2] X.env = [(false, eval e2 X.env)] := by rfl) : DI X tg (.Call (.Name "range" p) [e, e2] [] pos) (dIRng2 ta) := by
  refine ⟨PI_imp (pi_range2 hg hm ha.pa hs hs2) ?_⟩
  rintro σ H R ⟨F, O, S, Q, rs, sr, h, fin⟩
  refine ⟨F, O, S, _, rs, sr, h, fun ds O1 h1 vs H1 F1 s1 rr => ?_⟩
  unfold kRng2 at h1
  split at h1
  · rename_i i j
    obtain ⟨v, w, rfl, r, r2⟩ := rr.two
    cases r; cases r2
    exact ⟨i, j, rfl, h1.1, fin _ _ h1.2 _ H1 F1 s1 (yields_rng i (j - i).toNat)⟩
  · exact h1.elim
theorem yields_enum {K : PySem.W.Frag} {F : Hp} {a : Addr} {vs : List V} {ds : List DV} (h : ∀ (O : Own) (H F2 : Hp), Sub F F2 → RS K F2 O H → SqL K H a vs) (r : Reps K F vs ds) : Yields K F (Ite K a) (enumD 0 ds) := by
  intro i O H F2 s rs
  have h0 := h O H F2 s rs
  refine ⟨fun d e => ?_, fun e => ⟨vs, h0, by rw [r.len]; rw [enumD_len] at e; exact e⟩⟩
  rw [enumD_get] at e
  cases e1 : ds[i]? with
  | none => rw [e1] at e; cases e
  | some d0 =>
    rw [e1] at e; cases e
    obtain ⟨v, h1, h2⟩ := r.get e1
    refine ⟨⟨vs, v, h0, h1⟩, fun x H' ⟨T, y, q1, q2, q3, q4⟩ => ?_⟩
    subst q1; subst q3
    have := q4 vs h0
    rw [h1] at this; cases this
    have st := rs.new q2 (.tup [.int (i : Nat), v])
    exact ⟨_, st, .tup upd_same (by rw [Nat.zero_add]; exact .cons (.int _) (.cons ((h2.mono s).mono st.sub) .nil))⟩
theorem di_enum {elts : List Expr} {kk : Nat} (hm : X.mg "enumerate" = none) (ha : DA X [e] ta) (hg : Gl X "enumerate" := by rfl) (hs : starEach [e] X.env = [(false, eval e X.env)] := by rfl) : DI X (.Tuple elts kk tpos) (.Call (.Name "enumerate" p) [e] [] pos) (dIEnum ta) := by
  refine ⟨PI_imp (pi_enum hg hm ha.pa hs) ?_⟩
  rintro σ H R ⟨F, O, S, Q, rs, sr, h, fin⟩
  refine ⟨F, O, S, _, rs, sr, h, fun ds O1 h1 vs H1 F1 s1 rr => ?_⟩
  unfold kEnum at h1
  split at h1
  · obtain ⟨v, rfl, r⟩ := rr.one
    cases r with
    | @lst a vs ds e r => exact ⟨a, vs, rfl, SqL.of (s1.rs.lst e), fin _ _ h1 _ H1 F1 s1 (yields_enum (vs := vs) (fun O H F2 s rs => SqL.of (rs.lst (s _ _ e))) r)⟩
  · obtain ⟨v, rfl, r⟩ := rr.one
    cases r with
    | @slst a vs ds e r => exact ⟨a, vs, rfl, s1.rs.sqL e, fin _ _ h1 _ H1 F1 s1 (yields_enum (vs := vs) (fun O H F2 s rs => rs.sqL (SqL.sub s e)) r)⟩
  · exact h1.elim
end

/-! ### comprehensions -/
def dwipe (S : DSt) : List Nat → DSt
  | [] => S
  | v :: vs => (dwipe S vs).set v none
theorem SR.none {K : PySem.W.Frag} {F : Hp} {σ : L2.St} {S : DSt} (h : SR K F σ S) (i : Nat) : SR K F (σ.set i none) (S.set i none) := by
  refine ⟨by simp [h.1], fun j e q => ?_⟩
  by_cases hj : j = i
  · subst hj
    have hl : j < S.length := by
      have := (List.getElem?_eq_some_iff.mp q).1
      simpa using this
    rw [List.getElem?_set_self hl] at q
    cases q
  · rw [List.getElem?_set_ne (Ne.symm hj)] at q ⊢
    exact h.2 j e q
theorem SR.wipe {K : PySem.W.Frag} {F : Hp} {σ : L2.St} {S : DSt} (h : SR K F σ S) : ∀ vs : List Nat, SR K F (L2.wipe σ vs) (dwipe S vs)
  | [] => h
  | v :: vs => (SR.wipe h vs).none v
theorem wipe_set {σ : L2.St} {i : Nat} {x : Option V} : ∀ {vs : List Nat}, i ∈ vs → L2.wipe (σ.set i x) vs = L2.wipe σ vs
  | [], h => absurd h (by simp)
  | v :: vs, h => by
    show (L2.wipe (σ.set i x) vs).set v _ = (L2.wipe σ vs).set v _
    by_cases hv : i ∈ vs
    · rw [wipe_set hv]
    · have e : i = v := by
        rcases List.mem_cons.mp h with e | e
        · exact e
        · exact absurd e hv
      subst e
      have : ∀ (us : List Nat), i ∉ us → L2.wipe (σ.set i x) us = (L2.wipe σ us).set i x := by
        intro us
        induction us with
        | nil => intro _; rfl
        | cons u us ih =>
          intro hu
          have h1 : i ∉ us := fun z => hu (List.mem_cons_of_mem _ z)
          have h2 : i ≠ u := fun z => hu (by simp [z])
          show (L2.wipe (σ.set i x) us).set u _ = ((L2.wipe σ us).set u _).set i x
          rw [ih h1, List.set_comm _ _ h2]
      rw [this vs hv, List.set_set]
theorem wipe_wipe {σ : L2.St} {ws : List Nat} : ∀ {vs : List Nat}, (∀ v ∈ vs, v ∈ ws) → L2.wipe (L2.wipe σ vs) ws = L2.wipe σ ws
  | [], _ => rfl
  | v :: vs, h => by
    show L2.wipe ((L2.wipe σ vs).set v _) ws = _
    rw [wipe_set (h v List.mem_cons_self)]
    exact wipe_wipe fun u hu => h u (List.mem_cons_of_mem _ hu)
/-- a comprehension's target -/
structure TgtOk (K : PySem.W.Frag) (g : TG) (b : DV → DSt → Option DSt) (vs : List Nat) : Prop where
  ok : ∀ {F : Hp} {O : Own} {H : Hp} {v : V} {d : DV} {σ : L2.St} {S S2 : DSt} {Q : L2.St → Hp → Prop}, RS K F O H → Rep K F v d → SR K F σ S → b d S = some S2 → (∀ σ2, SR K F σ2 S2 → L2.wipe σ2 vs = L2.wipe σ vs → Q σ2 H) → g v σ H Q
def bind1 (i : Nat) : DV → DSt → Option DSt := fun d S => some (S.set i (some d))
theorem tgt_1 {K : PySem.W.Frag} {i : Nat} {vs : List Nat} (hi : i ∈ vs) : TgtOk K (gName i) (bind1 i) vs :=
  ⟨fun rs r sr e h => by cases e; exact h _ (sr.set i r) (wipe_set hi)⟩
def setAll : DSt → List Nat → List DV → Option DSt
  | S, [], [] => some S
  | S, i :: is, d :: ds => setAll (S.set i (some d)) is ds
  | _, _, _ => none
def bindN (is : List Nat) : DV → DSt → Option DSt
  | .tup ds, S => setAll S is ds
  | _, _ => none
def gNames : List Nat → TGs
  | [] => gNil
  | i :: is => gCons (gName i) (gNames is)
theorem setAll_ok {K : PySem.W.Frag} {F : Hp} {H : Hp} {vs : List Nat} {Q : L2.St → Hp → Prop} : ∀ {is : List Nat} {S S2 : DSt} {σ : L2.St} {ws : List V} {ds : List DV}, (∀ i ∈ is, i ∈ vs) → Reps K F ws ds → SR K F σ S → setAll S is ds = some S2 →
    (∀ σ2, SR K F σ2 S2 → L2.wipe σ2 vs = L2.wipe σ vs → Q σ2 H) → ws.length = is.length ∧ gNames is ws σ H Q
  | [], S, S2, σ, ws, [], hi, r, sr, e, h => by
    cases r; cases e
    exact ⟨rfl, rfl, h σ sr rfl⟩
  | i :: is, S, S2, σ, ws, d :: ds, hi, r, sr, e, h => by
    cases r with | @cons v _ ws _ r1 r2 =>
    have q := setAll_ok (H := H) (Q := Q) (is := is) (fun j hj => hi j (List.mem_cons_of_mem _ hj)) r2 (sr.set i r1) e (fun σ2 h1 h2 => h σ2 h1 (h2.trans (wipe_set (hi i List.mem_cons_self))))
    exact ⟨by simp [q.1], v, ws, rfl, q.2⟩
  | [], _, _, _, _, _ :: _, _, _, _, e, _ => by cases e
  | _ :: _, _, _, _, _, [], _, _, _, e, _ => by cases e
theorem tgt_N {K : PySem.W.Frag} {is : List Nat} {n : Nat} {vs : List Nat} (hi : ∀ i ∈ is, i ∈ vs) (hn : is.length = n) : TgtOk K (gTup K n (gNames is)) (bindN is) vs := by
  refine ⟨fun {F O H v d σ S S2 Q} rs r sr e h => ?_⟩
  unfold bindN at e
  split at e
  · cases r with | @tup a ws ds e1 r1 =>
    obtain ⟨q1, q2⟩ := setAll_ok hi r1 sr e h
    exact ⟨a, ws, rfl, SqT.of (rs.tup e1), q1.trans hn, q2⟩
  · cases e
structure DTs (X : Cx) (ifs : List Expr) (t : DTT) : Prop where
  pts : PTs X ifs (liftT X.K t)
def dYes : DTT := fun _ O Q => Q true O
theorem PTs_imp {X : Cx} {e : List Expr} {t t' : TT} (h : PTs X e t) (i : ∀ σ H Q, t' σ H Q → t σ H Q) : PTs X e t' := ⟨fun pins s σ H Q I q => h.run pins s σ H Q I (i σ H Q q)⟩
theorem dts_nil {X : Cx} : DTs X [] dYes := ⟨PTs_imp pts_nil fun σ H VQ ⟨F, O, S, Q, rs, sr, h, fin⟩ => fin _ _ h H F (.refl rs)⟩
theorem dts_one {X : Cx} {c : Expr} {t : DTT} (h : DT X c t) : DTs X [c] t := ⟨pts_one h.pt⟩
/-- something beside -/
theorem Stp.side {K : PySem.W.Frag} {F H F' H' : Hp} {O O' : Own} {D : Addr} (s : Stp K F O H F' O' H') (h : H D = none) (hf : F' D = none) (ho : O' D = none) (o : HO) : Stp K F O H F' O' (upd H' D o) := by
  refine ⟨s.sub, ⟨fun b u e => ?_, fun b c e => ?_⟩, fun b u h1 h2 => ?_, s.nof⟩
  · rw [upd_ne (fun z => by subst z; rw [hf] at e; cases e)]; exact s.rs.fro b u e
  · obtain ⟨h1, h2⟩ := s.rs.own b c e
    exact ⟨h1, h2.mono (Sub.refl _) (upd_ne (fun z => by subst z; rw [ho] at e; cases e))⟩
  · obtain ⟨h3, h4⟩ := s.keep b u h1 h2
    exact ⟨by rw [upd_ne (fun z => by subst z; rw [h] at h1; cases h1)]; exact h3, h4⟩
/-- the new list: frozen, or owned -/
def endLc : Bool → DVK → List DV → Own → Prop
  | false, Q, acc, O => Q (.lst acc) O
  | true, Q, acc, O => ∀ p, O p = none → Q (.ref p) (oset O p (.lst acc))
theorem endLc_ok {K : PySem.W.Frag} {F H F' H' : Hp} {O O' : Own} {D : Addr} {vacc : List V} {acc : List DV} {ow : Bool} {Q : DVK} {VQ : VK} (s' : Stp K F O H F' O' H') (hD : H D = none) (hd' : H' D = some (.lst vacc)) (hf' : F' D = none) (ho' : O' D = none) (ra : Reps K F' vacc acc)
    (h : endLc ow Q acc O') (fin : FinE K F O H Q VQ) : VQ (.ref D) H' := by
  cases ow with
  | false =>
    refine fin _ _ h _ H' (upd F' D (.lst vacc)) ⟨s'.sub.trans (Sub.upd hf'), ⟨fun b u e => ?_, fun b c e => ?_⟩, s'.keep, fun b u h1 h2 h3 => ?_⟩ (.lst upd_same (ra.mono (Sub.upd hf')))
    · by_cases hb : b = D
      · subst hb; rw [upd_same] at e; cases e; exact .inl hd'
      · rw [upd_ne hb] at e; exact s'.rs.fro b u e
    · have hb : b ≠ D := fun z => by subst z; rw [ho'] at e; cases e
      obtain ⟨h3, h4⟩ := s'.rs.own b c e
      exact ⟨by rw [upd_ne hb]; exact h3, h4.mono (Sub.upd hf') rfl⟩
    · rw [upd_ne (fun z => by subst z; rw [hD] at h1; cases h1)]; exact s'.nof b u h1 h2 h3
  | true =>
    refine fin _ _ (h D ho') _ H' F' ⟨s'.sub, ⟨s'.rs.fro, fun b c e => ?_⟩, fun b u h1 h2 => ?_, s'.nof⟩ (.ref D)
    · by_cases hb : b = D
      · subst hb; rw [oset_same] at e; cases e
        exact ⟨hf', vacc, hd', ra⟩
      · rw [oset_ne hb] at e; exact s'.rs.own b c e
    · have hb : b ≠ D := fun z => by subst z; rw [hD] at h1; cases h1
      rw [oset_ne hb]; exact s'.keep b u h1 h2
def lcW (ow : Bool) (b : DV → DSt → Option DSt) (tt : DTT) (te : DTE) (S : DSt) (Q : DVK) : List DV → List DV → Own → Prop
  | [], acc, O => endLc ow Q acc O
  | x :: r, acc, O => onSome (b x S) fun S2 => tt S2 O fun c O2 => if c = true then te S2 O2 fun y O3 => acc.length < 16000000 ∧ lcW ow b tt te S Q r (acc ++ [y]) O3 else lcW ow b tt te S Q r acc O2
def dLc (ow : Bool) (di : DTI) (b : DV → DSt → Option DSt) (tt : DTT) (te : DTE) (vs : List Nat) : DTE := fun S O Q => di S O fun ds O1 => lcW ow b tt te (dwipe S vs) Q ds [] O1
theorem lc_line {n : Nat} (h : n < 16000000) : n < sizeLine := by
  have := sizeLine_eq
  omega
theorem liftLc {K : PySem.W.Frag} {ow : Bool} {di : DTI} {g : TG} {b : DV → DSt → Option DSt} {tt : DTT} {te : DTE} {vs : List Nat} (hg : TgtOk K g b vs) {σ : L2.St} {H : Hp} {VQ : VK} (h : liftE K (dLc ow di b tt te vs) σ H VQ) :
    tLc (liftI K di) g (liftT K tt) (liftE K te) vs σ H VQ := by
  obtain ⟨F, O, S, Q, rs, sr, h, fin⟩ := h
  refine ⟨F, O, S, _, rs, sr, h, fun ds O1 h1 J H1 F1 s1 y D hD => ?_⟩
  obtain ⟨hf1, ho1⟩ := s1.rs.free hD
  refine ⟨fun i m H' => m = ds.length - i ∧ ∃ F' O' acc vacc, Stp K F1 O1 H1 F' O' H' ∧ H' D = some (.lst vacc) ∧ F' D = none ∧ O' D = none ∧ Reps K F' vacc acc ∧ lcW ow b tt te (dwipe S vs) Q (ds.drop i) acc O',
    ⟨_, rfl, F1, O1, [], [], (Stp.refl s1.rs).side hD hf1 ho1 _, upd_same, hf1, ho1, .nil, h1⟩, ?_⟩
  rintro i m H' ⟨em, F', O', acc, vacc, s', hd', hf', ho', ra, h'⟩
  obtain ⟨y1, y2⟩ := y i O' H' F' s'.sub s'.rs
  by_cases hi : i < ds.length
  · have e0 : ds[i]? = some ds[i] := List.getElem?_eq_getElem hi
    rw [List.drop_eq_getElem_cons hi] at h'
    obtain ⟨hgo, hy⟩ := y1 _ e0
    refine .inr ⟨hgo, fun H2 => ∃ F' O' acc vacc, Stp K F1 O1 H1 F' O' H2 ∧ H2 D = some (.lst vacc) ∧ F' D = none ∧ O' D = none ∧ Reps K F' vacc acc ∧ lcW ow b tt te (dwipe S vs) Q (ds.drop (i + 1)) acc O', fun H2 q => ⟨_, ?_, rfl, q⟩, fun x H2 q => ?_⟩
    · omega
    · obtain ⟨F3, s3, r3⟩ := hy x H2 q
      unfold lcW at h'
      obtain ⟨S2, e2, h'⟩ := onSome_ex h'
      · refine hg.ok s3.rs r3 (((sr.mono s1.sub).mono s'.sub).mono s3.sub |>.wipe vs) e2 fun σ2 sr2 ew => ⟨ew.trans (wipe_wipe fun _ h => h), F3, O', S2, _, s3.rs, sr2, h', fun c O4 h4 H4 F4 s4 => ?_⟩
        have st4 := s3.trans s4
        dsimp only at h4 ⊢
        split
        · rename_i e; rw [if_pos e] at h4
          refine ⟨F4, O4, S2, _, s4.rs, sr2.mono s4.sub, h4, fun d O5 h5 v H5 F5 s5 r5 => ?_⟩
          have st5 := st4.trans s5
          obtain ⟨k1, k2⟩ := st5.keep D _ hd' ho'
          have k3 := st5.nof D _ hd' ho' hf'
          exact ⟨vacc, k1, by rw [ra.len]; exact lc_line h5.1, F5, O5, _, _, (s'.trans st5).side hD k3 k2 _, upd_same, k3, k2, (ra.mono st5.sub).append (.cons r5 .nil), h5.2⟩
        · rename_i e; rw [if_neg e] at h4
          obtain ⟨k1, k2⟩ := st4.keep D _ hd' ho'
          have k3 := st4.nof D _ hd' ho' hf'
          exact ⟨F4, O4, acc, vacc, s'.trans st4, k1, k3, k2, ra.mono st4.sub, h4⟩
  · rw [List.drop_eq_nil_of_le (by omega)] at h'
    exact .inl ⟨y2 (by omega), endLc_ok s' hD hd' hf' ho' ra h' (fin.step s1)⟩
section
variable {X : Cx}
theorem de_lc (ow : Bool) {elt tg iter : Expr} {ifs : List Expr} {scope : Scope} {own : List (Str × Nat)} {pos : Pos} {di : DTI} {g : TG} {b : DV → DSt → Option DSt} {tt : DTT} {te : DTE} (hc : X.calm = true) (hN : X.N.Nodup) (hi : DI X tg iter di) (ok : BlkOk X.N X.env.scope scope own) (hT : TgtOk X.K g b (own.map (·.2)))
    (hg : ∀ (s : Shared) (H : Hp) (C : Addr) (cl : List (Str × Addr)) (fp : List Addr), PG (X.blk s H scope (compEnvC scope cl C X.env) fp) tg g) (ht : ∀ (s : Shared) (H : Hp) (C : Addr) (cl : List (Str × Addr)) (fp : List Addr), DTs (X.blk s H scope (compEnvC scope cl C X.env) fp) ifs tt)
    (he : ∀ (s : Shared) (H : Hp) (C : Addr) (cl : List (Str × Addr)) (fp : List Addr), DE (X.blk s H scope (compEnvC scope cl C X.env) fp) elt te) (hs : ∀ x, foldedSetIterable iter X.env x = pure x := by intro _; rfl) :
    DE X (.ListComp elt [⟨tg, iter, ifs, 0⟩] scope pos) (dLc ow di b tt te (own.map (·.2))) :=
  ⟨PE_imp (pe_lc (te := liftE X.K te) (tt := liftT X.K tt) hc hN hi.pi ok hg (fun s H C cl fp => (ht s H C cl fp).pts) (fun s H C cl fp => (he s H C cl fp).pe) hs) fun _ _ _ h => liftLc hT h⟩
theorem ds_setLc (ow : Bool) (i : Nat) {y : Str} {py : Pos} {elt tg iter : Expr} {ifs : List Expr} {scope : Scope} {own : List (Str × Nat)} {pos spos : Pos} {di : DTI} {g : TG} {b : DV → DSt → Option DSt} {tt : DTT} {te : DTE} (hc : X.calm = true) (hN : X.N.Nodup) (hsw : swapsWith (.ListComp elt [⟨tg, iter, ifs, 0⟩] scope pos) (some (.Name y py)) spos.line X.env = pure true) (hi : DI X tg iter di) (ok : BlkOk X.N X.env.scope scope own) (hT : TgtOk X.K g b (own.map (·.2)))
    (hg : ∀ (s : Shared) (H : Hp) (C : Addr) (cl : List (Str × Addr)) (fp : List Addr), PG (X.blk s H scope (compEnvC scope cl C X.env) fp) tg g) (ht : ∀ (s : Shared) (H : Hp) (C : Addr) (cl : List (Str × Addr)) (fp : List Addr), DTs (X.blk s H scope (compEnvC scope cl C X.env) fp) ifs tt)
    (he : ∀ (s : Shared) (H : Hp) (C : Addr) (cl : List (Str × Addr)) (fp : List Addr), DE (X.blk s H scope (compEnvC scope cl C X.env) fp) elt te) (hy : X.N[i]? = some y := by rfl) (hyl : X.env.scope.names.lookup y = some .local := by rfl) (hs : ∀ x, foldedSetIterable iter X.env x = pure x := by intro _; rfl) :
    DS X (.Assign [.Name y py] (.ListComp elt [⟨tg, iter, ifs, 0⟩] scope pos) spos) (dAsg (dLc ow di b tt te (own.map (·.2))) (dgName i)) := by
  refine ⟨PS_imp (ps_setLc (i := i) (te := liftE X.K te) (tt := liftT X.K tt) hc hN hy hyl hsw hi.pi ok hg (fun s H C cl fp => (ht s H C cl fp).pts) (fun s H C cl fp => (he s H C cl fp).pe) hs) ?_⟩
  rintro VD σ H ⟨F, O, S, D, rs, sr, h, fin⟩
  exact liftLc hT ⟨F, O, S, _, rs, sr, h, fun d O1 h1 v H1 F1 s1 rv => fin.nx _ _ h1 _ H1 F1 s1 ((sr.mono s1.sub).set i rv)⟩
end
end DL

set_option Elab.async false
set_option linter.all false
set_option maxRecDepth 100000
/-! DCall: defs and their calls, over data. -/
namespace DL
open PySem PySem.Spec PyProof.Rows L2 TL

/-- an exception: its class, its fields (none: no dict) -/
abbrev DXK := Addr → Option (List (Str × DV)) → Own → Prop
abbrev DSp := List DV → Own → DVK → DXK → Prop
def XAt (K : PySem.W.Frag) (F H : Hp) (d : Option Addr) : Option (List (Str × DV)) → Prop
  | none => d = none
  | some fs => ∃ dx fvs, d = some dx ∧ H dx = some (.xd fvs) ∧ RepF K F fvs fs
def FinX (K : PySem.W.Frag) (F : Hp) (O : Own) (H : Hp) (ED : DXK) (E : XK) : Prop := ∀ C fs O', ED C fs O' → ∀ d H' F', Stp K F O H F' O' H' → XAt K F' H' d fs → E (.ref C) d H'
theorem FinX.step {K : PySem.W.Frag} {F F' H H' : Hp} {O O' : Own} {Q : DXK} {VQ : XK} (h : FinX K F O H Q VQ) (s : Stp K F O H F' O' H') : FinX K F' O' H' Q VQ := fun C fs O q d H G s' p => h C fs O q d H G (s.trans s') p
def liftSp (K : PySem.W.Frag) (sp : DSp) : Sp := fun vs H Q E => ∃ F O ds QD ED, RS K F O H ∧ Reps K F vs ds ∧ sp ds O QD ED ∧ FinE K F O H QD Q ∧ FinX K F O H ED E
abbrev X0 : DXK := fun _ _ _ => False
def dCall (sp : DSp) (t : DTA) : DTE := fun S O Q => t S O fun ds O1 => sp ds O1 Q X0
section
variable {X : Cx} {k : Nat} {f : Addr} {fd : FuncData} {ps : List Str} {sp : DSp} {x : Str} {p pos : Pos} {e : Expr} {es : List Expr} {t : DTA}
theorem liftCall {K : PySem.W.Frag} {sp : DSp} {t : DTA} {σ : L2.St} {H : Hp} {VQ : VK} (h : liftE K (dCall sp t) σ H VQ) : tCall (liftSp K sp) [] E0 (liftA K t) σ H VQ := by
  obtain ⟨F, O, S, Q, rs, sr, h, fin⟩ := h
  refine ⟨F, O, S, _, rs, sr, h, fun ds O1 h1 vs H1 F1 s1 r1 => ⟨F1, O1, ds, Q, X0, s1.rs, by simpa using r1, h1, fin.step s1, fun _ _ _ h => h.elim⟩⟩
/-- f(e, ..), nothing is raised -/
theorem de_call (G : FnOk X.prog X.w X.K X.mg X.base CX0 k f fd ps (liftSp X.K sp)) (hr : Room k X.A) (hm : X.mg x = some (.ref f)) (hk : PySem.W.keepIn X.K (.ref f) = true) (hb : Binds X.K fd ps [])
    (ha : DA X (e :: es) t) (hg : Gl X x := by rfl) (hdb : (x == ("__debug__" : Str)) = false := by decide) (he : starEach (e :: es) X.env = (false, eval e X.env) :: starEach es X.env := by rfl) (hpl : (backTo pos (starEach es X.env)).any (·.1) = false := by rfl) :
    DE X (.Call (.Name x p) (e :: es) [] pos) (dCall sp t) :=
  ⟨PE_imp (pe_call G hr hg hm hk hb .nil pass0 ha.pa hdb he hpl) fun _ _ _ h => liftCall h⟩
theorem de_call0 (G : FnOk X.prog X.w X.K X.mg X.base CX0 k f fd ps (liftSp X.K sp)) (hr : Room k X.A) (hm : X.mg x = some (.ref f)) (hk : PySem.W.keepIn X.K (.ref f) = true) (hb : Binds X.K fd ps [])
    (hg : Gl X x := by rfl) (hdb : (x == ("__debug__" : Str)) = false := by decide) :
    DE X (.Call (.Name x p) [] [] pos) (dCall sp dANil) := by
  refine ⟨PE_imp (pe_call0 G hr hg hm hk hb .nil pass0 hdb) ?_⟩
  rintro σ H VQ ⟨F, O, S, Q, rs, sr, h, fin⟩
  exact ⟨F, O, [], Q, X0, rs, .nil, h, fin, fun _ _ _ h => h.elim⟩
end
def dstart : Nat → List DV → DSt
  | 0, _ => []
  | n + 1, [] => none :: dstart n []
  | n + 1, d :: ds => some d :: dstart n ds
theorem dstart_eq : ∀ {n : Nat} {ds : List DV}, ds.length ≤ n → dstart n ds = ds.map some ++ List.replicate (n - ds.length) none
  | 0, [], _ => rfl
  | 0, _ :: _, h => by simp at h
  | n + 1, [], _ => by
    have := dstart_eq (n := n) (ds := []) (Nat.zero_le _)
    show none :: dstart n [] = _
    rw [this]; simp [List.replicate_succ]
  | n + 1, d :: ds, h => by
    have := dstart_eq (n := n) (ds := ds) (by simpa using h)
    show some d :: dstart n ds = _
    rw [this]; simp
section
variable {P : Program} {w : World} {K : PySem.W.Frag} {mg : Str → Option Value} {base : Heap}
/-- a def's body keeps its promise; nothing leaves it -/
theorem DFun.ok {x qual : Str} {st : Stmt} {f : Addr} {fd : FuncData} {N ps : List Str} {k : Nat} {sp : DSp} (F : Fun K x qual st f fd) (S : FnScope N ps (defScope st)) (hn : ps.length ≤ N.length) (len : ∀ ds O Q E, sp ds O Q E → ds.length = ps.length)
    (hbody : ∀ (cdv : Value) (A : Around) (outer : List Env) (s : Shared) (H : Hp) (E : XK) (ds : List DV) (O : Own) (Q : DVK) (ED : DXK), Room k (A.deeper (envOfC qual (defScope st) s.heap.objs.size f cdv)) → sp ds O Q ED →
      ∃ t, DSs (cxOf CX0 P w K mg base N qual (defScope st) f cdv A outer s H E).nox (defBody st) t ∧ t { nx := fun _ O' => Q .non O', rt := Q } (dstart N.length ds) O) : FnOk P w K mg base CX0 (k + 1) f fd ps (liftSp K sp) := by
  refine F.ok S (fun vs H Q E h => ?_) (fun cdv A outer s H vs Q E hr h => ?_)
  · obtain ⟨F, O, ds, QD, ED, rs, r, h, _⟩ := h
    rw [r.len]; exact len _ _ _ _ h
  · obtain ⟨F, O, ds, QD, ED, rs, r, h, fin, _⟩ := h
    obtain ⟨t, h1, h2⟩ := hbody cdv A outer s H E ds O QD ED hr h
    refine ⟨_, h1.ps, F, O, _, _, rs, ?_, h2, ⟨fun S1 O1 q σ1 H1 F1 s1 sr1 => fin _ _ q _ H1 F1 s1 .non, fin, fun _ _ h => h.elim, fun _ _ h => h.elim⟩⟩
    have hl := len _ _ _ _ h
    rw [dstart_eq (by omega)]
    exact SR.start N r
/-- a promise that is never asked -/
theorem fn_false {f : Addr} {fd : FuncData} {ps : List Str} {k : Nat} {sp : DSp} (h : ∀ ds O Q E, sp ds O Q E → False) : FnOk P w K mg base CX0 k f fd ps (liftSp K sp) where
  len := fun vs H Q E ⟨F, O, ds, QD, ED, _, _, q, _⟩ => (h _ _ _ _ q).elim
  run := fun A outer s H args us vs Q E _ _ _ _ ⟨F, O, ds, QD, ED, _, _, q, _⟩ => (h _ _ _ _ q).elim
/-- the law's own end: True, whatever else -/
def spLaw : DSp := fun ds O Q _ => ∃ (ns : List Int), ds = [.slst (ns.map DV.int)] ∧ ns.length ≤ 63 ∧ O = (fun _ => none) ∧ ∀ O', Q (.bl true) O'
theorem law_sp {K : PySem.W.Frag} {H : Hp} {a : Addr} {ns : List Int} (hl : ns.length ≤ 63) (h : SqL K H a (ns.map V.int)) : liftSp K spLaw [.ref a] H (fun v _ => v = .bl true) fun _ _ _ => False := by
  refine ⟨H, fun _ => none, [.slst (ns.map DV.int)], fun d _ => d = .bl true, X0, ⟨fun _ _ e => .inl e, fun _ _ e => nomatch e⟩, .cons (.slst h (Reps.of_ints ns)) .nil, ⟨ns, rfl, hl, rfl, fun _ => rfl⟩, ?_, fun _ _ _ h => h.elim⟩
  rintro d O' rfl v H' F' _ r
  cases r; rfl
theorem walk {l : PySem.W.OpenLaw} {q : Program} {loose : List Str} {XP : (Str → Option Value) → Heap → Prop} {YP : World → Heap → Prop} {d : DefRec} {K : Params → PySem.W.Frag} {k : Nat} (hk : k ≤ 200) (hn : l.most = some 63) (hdf : d.params.defaults = [])
    (hY : ∀ (w : World) (h : Heap), YP w h → (K w.params).In h)
    (F : ∀ (w : World) (mg : Str → Option Value) (fa : Addr) (h : Heap), (K w.params).In h → h.Ns mainGlobals mg → mg d.name = some (.ref fa) →
      ∃ fd : FuncData, (∀ (s : Shared) (u : Value), BindsTo s fd ⟨[u], []⟩ [("_law_script", u)]) ∧ ∀ base : Heap, (K w.params).In base → base.Ns mainGlobals mg → FnOk l.prog w (K w.params) mg base CX0 k fa fd ["_law_script"] (liftSp (K w.params) spLaw)) :
    PySem.W.WalkO q loose XP YP l.row.toRowW d [] (fun f vs => PySem.call f vs) :=
  L2.walk_of (n := 63) (k := k) (x := "_law_script") (CX := fun _ => CX0) (sp := fun w => liftSp (K w.params) spLaw) hn (by decide) hdf (Room.mono (k := 200) ⟨rfl, by decide, by decide⟩ hk) hY F (fun _ _ a ns hl _ hS => law_sp hl hS) fun _ _ _ _ _ z => z
end
end DL

set_option Elab.async false
set_option linter.all false
set_option maxRecDepth 100000
/-! DDict: dicts over data; text * int; two clauses. -/
namespace DL
open PySem PySem.Spec PyProof.Rows L2 TL

section
variable {κ : Type} [DecidableEq κ]
def dget (es : List (κ × DV)) (k : κ) : Option DV := (es.find? fun kv => decide (kv.1 = k)).map (·.2)
def dput (es : List (κ × DV)) (k : κ) (v : DV) : List (κ × DV) :=
  if (es.any fun kv => decide (kv.1 = k)) = true then es.map (fun kv => if kv.1 = k then (kv.1, v) else kv) else es ++ [(k, v)]
def dmerge (es more : List (κ × DV)) : List (κ × DV) := more.foldl (fun acc kv => dput acc kv.1 kv.2) es
end
section
variable {K : PySem.W.Frag} {F : Hp}
theorem RepK.get : ∀ {kvs : List (Key × V)} {es : List (Key × DV)} {k : Key}, RepK K F kvs es → (∀ d, dget es k = some d → ∃ v, valV kvs k = some v ∧ Rep K F v d) ∧ (dget es k = none → valV kvs k = none)
  | _, _, k, .nil => ⟨fun d h => (by cases h), fun _ => rfl⟩
  | _, _, k, .cons (k := k') (v := v) (d := d) r q => by
    obtain ⟨h1, h2⟩ := RepK.get (k := k) q
    by_cases e : k' = k
    · refine ⟨fun d' h => ⟨v, valV_pos e, ?_⟩, fun h => ?_⟩
      · simp [dget, List.find?_cons, e] at h
        subst h; exact r
      · simp [dget, List.find?_cons, e] at h
    · have ed : ∀ r', dget ((k', d) :: r') k = dget r' k := fun r' => by simp [dget, List.find?_cons, e]
      refine ⟨fun d' h => ?_, fun h => ?_⟩
      · rw [ed] at h; rw [valV_neg e]; exact h1 d' h
      · rw [ed] at h; rw [valV_neg e]; exact h2 h
theorem RepT.get : ∀ {kvs : List (List Key × V)} {es : List (List Key × DV)} {k : List Key}, RepT K F kvs es → (∀ d, dget es k = some d → ∃ v, valV kvs k = some v ∧ Rep K F v d) ∧ (dget es k = none → valV kvs k = none)
  | _, _, k, .nil => ⟨fun d h => (by cases h), fun _ => rfl⟩
  | _, _, k, .cons (k := k') (v := v) (d := d) r q => by
    obtain ⟨h1, h2⟩ := RepT.get (k := k) q
    by_cases e : k' = k
    · refine ⟨fun d' h => ⟨v, valV_pos e, ?_⟩, fun h => ?_⟩
      · simp [dget, List.find?_cons, e] at h
        subst h; exact r
      · simp [dget, List.find?_cons, e] at h
    · have ed : ∀ r', dget ((k', d) :: r') k = dget r' k := fun r' => by simp [dget, List.find?_cons, e]
      refine ⟨fun d' h => ?_, fun h => ?_⟩
      · rw [ed] at h; rw [valV_neg e]; exact h1 d' h
      · rw [ed] at h; rw [valV_neg e]; exact h2 h
theorem RepK.any (k : Key) : ∀ {kvs : List (Key × V)} {es : List (Key × DV)}, RepK K F kvs es → (kvs.any fun kv => decide (kv.1 = k)) = (es.any fun kv => decide (kv.1 = k))
  | _, _, .nil => rfl
  | _, _, .cons r q => by rw [List.any_cons, List.any_cons, RepK.any k q]
theorem RepT.any (k : List Key) : ∀ {kvs : List (List Key × V)} {es : List (List Key × DV)}, RepT K F kvs es → (kvs.any fun kv => decide (kv.1 = k)) = (es.any fun kv => decide (kv.1 = k))
  | _, _, .nil => rfl
  | _, _, .cons r q => by rw [List.any_cons, List.any_cons, RepT.any k q]
theorem RepK.append : ∀ {a b : List (Key × V)} {c d : List (Key × DV)}, RepK K F a c → RepK K F b d → RepK K F (a ++ b) (c ++ d)
  | _, _, _, _, .nil, q => q
  | _, _, _, _, .cons r p, q => .cons r (RepK.append p q)
theorem RepT.append : ∀ {a b : List (List Key × V)} {c d : List (List Key × DV)}, RepT K F a c → RepT K F b d → RepT K F (a ++ b) (c ++ d)
  | _, _, _, _, .nil, q => q
  | _, _, _, _, .cons r p, q => .cons r (RepT.append p q)
theorem RepK.mapPut {k : Key} {v : V} {d : DV} (r : Rep K F v d) : ∀ {kvs : List (Key × V)} {es : List (Key × DV)}, RepK K F kvs es → RepK K F (kvs.map fun kv => if kv.1 = k then (kv.1, v) else kv) (es.map fun kv => if kv.1 = k then (kv.1, d) else kv)
  | _, _, .nil => .nil
  | _, _, .cons (k := k') p q => by
    rw [List.map_cons, List.map_cons]
    by_cases e : k' = k
    · simp only [e, if_true]; exact .cons r (RepK.mapPut r q)
    · simp only [e, if_false]; exact .cons p (RepK.mapPut r q)
theorem RepT.mapPut {k : List Key} {v : V} {d : DV} (r : Rep K F v d) : ∀ {kvs : List (List Key × V)} {es : List (List Key × DV)}, RepT K F kvs es → RepT K F (kvs.map fun kv => if kv.1 = k then (kv.1, v) else kv) (es.map fun kv => if kv.1 = k then (kv.1, d) else kv)
  | _, _, .nil => .nil
  | _, _, .cons (k := k') p q => by
    rw [List.map_cons, List.map_cons]
    by_cases e : k' = k
    · simp only [e, if_true]; exact .cons r (RepT.mapPut r q)
    · simp only [e, if_false]; exact .cons p (RepT.mapPut r q)
theorem RepK.put {k : Key} {v : V} {d : DV} {kvs : List (Key × V)} {es : List (Key × DV)} (q : RepK K F kvs es) (r : Rep K F v d) : RepK K F (putK kvs k v) (dput es k d) := by
  unfold putK dput
  rw [q.any k]
  split
  · exact q.mapPut r
  · exact q.append (.cons r .nil)
theorem RepT.put {k : List Key} {v : V} {d : DV} {kvs : List (List Key × V)} {es : List (List Key × DV)} (q : RepT K F kvs es) (r : Rep K F v d) : RepT K F (putK kvs k v) (dput es k d) := by
  unfold putK dput
  rw [q.any k]
  split
  · exact q.mapPut r
  · exact q.append (.cons r .nil)
theorem RepK.len : ∀ {kvs : List (Key × V)} {es : List (Key × DV)}, RepK K F kvs es → kvs.length = es.length
  | _, _, .nil => rfl
  | _, _, .cons _ q => by simp [RepK.len q]
theorem RepT.len : ∀ {kvs : List (List Key × V)} {es : List (List Key × DV)}, RepT K F kvs es → kvs.length = es.length
  | _, _, .nil => rfl
  | _, _, .cons _ q => by simp [RepT.len q]
theorem RepK.merge : ∀ {more : List (Key × V)} {em : List (Key × DV)} {kvs : List (Key × V)} {es : List (Key × DV)}, RepK K F more em → RepK K F kvs es → RepK K F (mergeK kvs more) (dmerge es em)
  | _, _, _, _, .nil, q => q
  | _, _, kvs, es, .cons (k := k) (v := v) (d := d) (vs := vs) (ds := ds) r p, q => by
    show RepK K F (mergeK (putK kvs k v) vs) (dmerge (dput es k d) ds)
    exact RepK.merge p (q.put r)
end

def dkOf (O : Own) : DV → Option (List (Key × DV))
  | .dK es => some es
  | .ref a => match O a with
    | some (.dK es) => some es
    | _ => none
  | _ => none
def dtOf (O : Own) : DV → Option (List (List Key × DV))
  | .dT es => some es
  | .ref a => match O a with
    | some (.dT es) => some es
    | _ => none
  | _ => none
theorem dkOf_at {K : PySem.W.Frag} {F H : Hp} {O : Own} {v : V} {d : DV} {es : List (Key × DV)} (rs : RS K F O H) (r : Rep K F v d) (h : dkOf O d = some es) : ∃ a kvs, v = .ref a ∧ Rd H a (.dK kvs) ∧ RepK K F kvs es := by
  cases r with
  | dK e r =>
    cases h
    rcases rs.fro _ _ e with e | ⟨_, ob, e⟩
    · exact ⟨_, _, rfl, .inl e, r⟩
    · exact ⟨_, _, rfl, .inr ⟨ob, e⟩, r⟩
  | ref a =>
    simp only [dkOf] at h
    split at h
    · rename_i ys e
      cases h
      obtain ⟨_, vs, h1, h2⟩ := rs.own a _ e
      exact ⟨a, vs, rfl, .inl h1, h2⟩
    · cases h
  | _ => cases h
theorem dtOf_at {K : PySem.W.Frag} {F H : Hp} {O : Own} {v : V} {d : DV} {es : List (List Key × DV)} (rs : RS K F O H) (r : Rep K F v d) (h : dtOf O d = some es) : ∃ a kvs, v = .ref a ∧ Rd H a (.dT kvs) ∧ RepT K F kvs es := by
  cases r with
  | dT e r =>
    cases h
    rcases rs.fro _ _ e with e | ⟨_, ob, e⟩
    · exact ⟨_, _, rfl, .inl e, r⟩
    · exact ⟨_, _, rfl, .inr ⟨ob, e⟩, r⟩
  | ref a =>
    simp only [dtOf] at h
    split at h
    · rename_i ys e
      cases h
      obtain ⟨_, vs, h1, h2⟩ := rs.own a _ e
      exact ⟨a, vs, rfl, .inl h1, h2⟩
    · cases h
  | _ => cases h
def keyD : DV → Option Key
  | .str x => some (.inr x)
  | .int i => some (.inl i)
  | _ => none
def keysD : List DV → Option (List Key)
  | [] => some []
  | d :: r => match keyD d, keysD r with
    | some k, some ks => some (k :: ks)
    | _, _ => none
def keyTD : DV → Option (List Key)
  | .tup ds => keysD ds
  | _ => none
theorem keyD_at {K : PySem.W.Frag} {F : Hp} {v : V} {d : DV} {k : Key} (r : Rep K F v d) (h : keyD d = some k) : v = kV k := by
  cases r <;> cases h <;> rfl
theorem keysD_at {K : PySem.W.Frag} {F : Hp} : ∀ {vs : List V} {ds : List DV} {ks : List Key}, Reps K F vs ds → keysD ds = some ks → vs = ks.map kV
  | _, _, _, .nil, h => by cases h; rfl
  | _, _, _, .cons r q, h => by
    unfold keysD at h
    split at h
    · rename_i k ks e1 e2; cases h
      rw [keyD_at r e1, keysD_at q e2]; rfl
    · cases h
theorem keyTD_at {K : PySem.W.Frag} {F H : Hp} {O : Own} {v : V} {d : DV} {ks : List Key} (rs : RS K F O H) (r : Rep K F v d) (h : keyTD d = some ks) : ∃ b, v = .ref b ∧ H b = some (.tup (ks.map kV)) := by
  cases r with
  | tup e r =>
    have := keysD_at r h
    subst this
    exact ⟨_, rfl, rs.tup e⟩
  | _ => cases h
/-- what a dict holds at a key -/
def dfind (O : Own) (x y : DV) : Option (Option DV) :=
  match keyD y with
  | some k => match dkOf O x with
    | some es => some (dget es k)
    | none => none
  | none => match keyTD y with
    | some k => match dtOf O x with
      | some es => some (dget es k)
      | none => none
    | none => none
theorem dfind_at {K : PySem.W.Frag} {F H : Hp} {O : Own} {u v : V} {x y : DV} {r : Option DV} (rs : RS K F O H) (rx : Rep K F u x) (ry : Rep K F v y) (h : dfind O x y = some r) :
    ∃ a o, u = .ref a ∧ DGet H a v o ∧ (∀ d, r = some d → ∃ w, o = some w ∧ Rep K F w d) ∧ (r = none → o = none) := by
  unfold dfind at h
  split at h
  · rename_i k e
    split at h
    · rename_i es e2
      cases h
      obtain ⟨a, kvs, rfl, h1, r1⟩ := dkOf_at rs rx e2
      have := keyD_at ry e
      subst this
      exact ⟨a, valV kvs k, rfl, .inl ⟨kvs, k, h1, rfl, rfl⟩, (r1.get (k := k)).1, (r1.get (k := k)).2⟩
    · cases h
  · split at h
    · rename_i k e
      split at h
      · rename_i es e2
        cases h
        obtain ⟨a, kvs, rfl, h1, r1⟩ := dtOf_at rs rx e2
        obtain ⟨b, rfl, h2⟩ := keyTD_at rs ry e
        exact ⟨a, valV kvs k, rfl, .inr ⟨kvs, k, b, h1, rfl, h2, rfl⟩, (r1.get (k := k)).1, (r1.get (k := k)).2⟩
      · cases h
    · cases h
def onK : Option Cell → (List (Key × DV) → Prop) → Prop
  | some (.dK es), K => K es
  | _, _ => False
def onT : Option Cell → (List (List Key × DV) → Prop) → Prop
  | some (.dT es), K => K es
  | _, _ => False
def dkQ (O : Own) : DV → (List (Key × DV) → Prop) → Prop
  | .dK es, K => K es
  | .ref a, K => onK (O a) K
  | _, _ => False
def dtQ (O : Own) : DV → (List (List Key × DV) → Prop) → Prop
  | .dT es, K => K es
  | .ref a, K => onT (O a) K
  | _, _ => False
theorem onK_ex {c : Option Cell} {K : List (Key × DV) → Prop} (h : onK c K) : ∃ es, c = some (.dK es) ∧ K es := by
  unfold onK at h
  split at h
  · exact ⟨_, rfl, h⟩
  · exact h.elim
theorem onT_ex {c : Option Cell} {K : List (List Key × DV) → Prop} (h : onT c K) : ∃ es, c = some (.dT es) ∧ K es := by
  unfold onT at h
  split at h
  · exact ⟨_, rfl, h⟩
  · exact h.elim
theorem dkQ_ex {O : Own} {d : DV} {K : List (Key × DV) → Prop} (h : dkQ O d K) : ∃ es, dkOf O d = some es ∧ K es := by
  unfold dkQ at h
  split at h
  · exact ⟨_, rfl, h⟩
  · rename_i a
    obtain ⟨xs, e, h⟩ := onK_ex h
    exact ⟨xs, by simp [dkOf, e], h⟩
  · exact h.elim
theorem dtQ_ex {O : Own} {d : DV} {K : List (List Key × DV) → Prop} (h : dtQ O d K) : ∃ es, dtOf O d = some es ∧ K es := by
  unfold dtQ at h
  split at h
  · exact ⟨_, rfl, h⟩
  · rename_i a
    obtain ⟨xs, e, h⟩ := onT_ex h
    exact ⟨xs, by simp [dtOf, e], h⟩
  · exact h.elim
/-- what a dict x holds at the key y -/
def findQ (O : Own) (x : DV) : DV → (Option DV → Prop) → Prop
  | .str z, K => dkQ O x fun es => K (dget es (.inr z))
  | .int i, K => dkQ O x fun es => K (dget es (.inl i))
  | .tup ds, K => onSome (keysD ds) fun k => dtQ O x fun es => K (dget es k)
  | _, _ => False
theorem findQ_ex {O : Own} {x y : DV} {K : Option DV → Prop} (h : findQ O x y K) : ∃ r, dfind O x y = some r ∧ K r := by
  unfold findQ at h
  split at h
  · obtain ⟨es, e, h⟩ := dkQ_ex h
    exact ⟨_, by simp [dfind, keyD, e], h⟩
  · obtain ⟨es, e, h⟩ := dkQ_ex h
    exact ⟨_, by simp [dfind, keyD, e], h⟩
  · obtain ⟨k, e0, h⟩ := onSome_ex h
    obtain ⟨es, e, h⟩ := dtQ_ex h
    exact ⟨_, by simp [dfind, keyD, keyTD, e, e0], h⟩
  · exact h.elim
def dDix : DR2 := fun x y O Q => findQ O x y fun r => onSome r fun d => Q d O
def dDin (neg : Bool) : DR2 := fun y x O Q => findQ O x y fun r => Q (.bl (if neg then !r.isSome else r.isSome)) O
section
variable {X : Cx} {a b : Expr} {ta tb : DTE} {pos : Pos}
theorem de_dix (hu : X.A.units + 1 < cLine) (ha : DE X a ta) (hb : DE X b tb) (hs : NoSl b := by exact fun _ _ => rfl) : DE X (.Subscript a b pos) (dOp dDix ta tb) := by
  refine ⟨PE_imp (pe_dget hu ha.pe hb.pe hs) ?_⟩
  rintro σ H VQ ⟨F, O, S, Q, rs, sr, h, fin⟩
  refine ⟨F, O, S, _, rs, sr, h, fun dx O1 h1 x H1 F1 s1 rx => ⟨F1, O1, S, _, s1.rs, sr.mono s1.sub, h1, fun dy O2 h2 y H2 F2 s2 ry => ?_⟩⟩
  obtain ⟨r, e, h2⟩ := findQ_ex h2
  obtain ⟨d, rfl, h2⟩ := onSome_ex h2
  obtain ⟨p, o, rfl, h3, h4, _⟩ := dfind_at s2.rs (rx.mono s2.sub) ry e
  obtain ⟨w', rfl, r⟩ := h4 d rfl
  exact ⟨p, w', rfl, h3, fin _ _ h2 _ H2 F2 (s1.trans s2) r⟩
theorem od_din_ {X : Cx} {f : Value → Value → Sem Value} (neg : Bool) (h : OpR X f (fun y x H Q => ∃ a o, x = .ref a ∧ DGet H a y o ∧ Q (.bl (if neg then !o.isSome else o.isSome)) H)) : OpD X f (dDin neg) := by
  refine ⟨OpR_imp h ?_⟩
  rintro y x H VQ ⟨F, O, dy, dx, Q, rs, ry, rx, h, fin⟩
  obtain ⟨r, e, h⟩ := findQ_ex h
  obtain ⟨p, o, rfl, h3, h4, h5⟩ := dfind_at rs rx ry e
  have : o.isSome = r.isSome := by
    cases r with
    | none => rw [h5 rfl]; rfl
    | some d => obtain ⟨w', rfl, _⟩ := h4 d rfl; rfl
  exact ⟨p, o, rfl, h3, by rw [this]; exact fin _ _ h _ _ F (.refl rs) (.bl _)⟩
theorem od_din (hu : X.A.units + 1 < cLine) : OpD X (compareOp .In) (dDin false) := od_din_ false fun pins s σ H y x v u Q I ry rx ⟨a, o, e, g, q⟩ => by
  subst e
  obtain rfl : u = Value.ref a := rx
  exact d_in hu I g ry fun s3 I3 => ⟨.bl o.isSome, H, I3, rfl, by simpa using q⟩
theorem od_dnin (hu : X.A.units + 1 < cLine) : OpD X (compareOp .NotIn) (dDin true) := od_din_ true fun pins s σ H y x v u Q I ry rx ⟨a, o, e, g, q⟩ => by
  subst e
  obtain rfl : u = Value.ref a := rx
  exact d_notIn hu I g ry fun s3 I3 => ⟨.bl (!o.isSome), H, I3, rfl, by simpa using q⟩
/-- d[k] = v of an owned dict -/
def dSetD : DV → DV → DV → Own → (Own → Prop) → Prop
  | .ref a, .str z, v, O, Q => onK (O a) fun es => es.length < 16000000 ∧ Q (oset O a (.dK (dput es (.inr z) v)))
  | .ref a, .int z, v, O, Q => onK (O a) fun es => es.length < 16000000 ∧ Q (oset O a (.dK (dput es (.inl z) v)))
  | .ref a, .tup ds, v, O, Q => onT (O a) fun es => onSome (keysD ds) fun k => es.length < 16000000 ∧ Q (oset O a (.dT (dput es k v)))
  | _, _, _, _, _ => False
theorem psd_dict (hu : X.A.units + 1 < cLine) : PSetD X dSetD := by
  refine ⟨fun pins s σ H o i v ov iv u VQ I ro ri rv ⟨F, O, d, e, f, Q, rs, rdo, rdi, rdv, h, fin⟩ => ?_⟩
  have key : ∀ (a : Addr) (H' : Hp) (F' : Hp) (O' : Own), o = .ref a → DPut H a i v H' → VQ H' → wpAny (model X.prog X.w) X.A (setItem ov iv u) (fun _ s' => ∃ H', Inv X pins σ H' s' ∧ VQ H') X.xe s := by
    intro a H' F' O' ea g q
    subst ea
    obtain rfl : ov = Value.ref a := ro
    exact d_setItem hu I g ri rv fun s' I' => ⟨H', I', q⟩
  have fk : ∀ {a : Addr} {k : Key}, d = .ref a → keyD e = some k → (onK (O a) fun es => es.length < 16000000 ∧ Q (oset O a (.dK (dput es k f)))) → wpAny (model X.prog X.w) X.A (setItem ov iv u) (fun _ s' => ∃ H', Inv X pins σ H' s' ∧ VQ H') X.xe s := by
    rintro a k rfl e2 h
    cases rdo
    obtain ⟨es, e1, h⟩ := onK_ex h
    obtain ⟨_, kvs, h1, r1⟩ := rs.own a _ e1
    have := keyD_at rdi e2
    subst this
    exact key a _ F O rfl (.k h1 (by rw [r1.len]; exact lc_line h.1)) (fin _ h.2 _ F (rs.write e1 ⟨_, upd_same, r1.put rdv⟩))
  unfold dSetD at h
  split at h
  · exact fk rfl rfl h
  · exact fk rfl rfl h
  · rename_i a ds
    cases rdo
    obtain ⟨es, e1, h⟩ := onT_ex h
    obtain ⟨k, e2, h⟩ := onSome_ex h
    obtain ⟨_, kvs, h1, r1⟩ := rs.own a _ e1
    obtain ⟨b, rfl, h2⟩ := keyTD_at rs rdi e2
    exact key a _ F O rfl (.t h1 h2 (by rw [r1.len]; exact lc_line h.1)) (fin _ h.2 _ F (rs.write e1 ⟨_, upd_same, r1.put rdv⟩))
  · exact h.elim
end

/-! ### displays -/
def dPairs : List (DTE × DTE) → DSt → Own → (List (DV × DV) → Own → Prop) → Prop
  | [], _, O, Q => Q [] O
  | (tk, tv) :: r, S, O, Q => tk S O fun x O1 => tv S O1 fun y O2 => dPairs r S O2 fun ps O3 => Q ((x, y) :: ps) O3
def RepVV (K : PySem.W.Frag) (F : Hp) : List (V × V) → List (DV × DV) → Prop := Paired fun p q => Rep K F p.1 q.1 ∧ Rep K F p.2 q.2
theorem RepVV.mono {K : PySem.W.Frag} {F F' : Hp} (s : Sub F F') : ∀ {x : List (V × V)} {y : List (DV × DV)}, RepVV K F x y → RepVV K F' x y
  | _, _, .nil => .nil
  | _, _, .cons h r => .cons ⟨h.1.mono s, h.2.mono s⟩ (RepVV.mono s r)
theorem liftPairs {K : PySem.W.Frag} : ∀ {trs : List (DTE × DTE)} {σ : L2.St} {H F : Hp} {O : Own} {S : DSt} {Q : List (DV × DV) → Own → Prop} {VQ : List (V × V) → Hp → Prop}, RS K F O H → SR K F σ S → dPairs trs S O Q →
    (∀ ps O', Q ps O' → ∀ vs H' F', Stp K F O H F' O' H' → RepVV K F' vs ps → VQ vs H') → tPairs (trs.map fun p => (liftE K p.1, liftE K p.2)) σ H VQ
  | [], σ, H, F, O, S, Q, VQ, rs, sr, h, fin => fin _ _ h _ H F (.refl rs) .nil
  | (tk, tv) :: r, σ, H, F, O, S, Q, VQ, rs, sr, h, fin =>
    ⟨F, O, S, _, rs, sr, h, fun x O1 h1 u H1 F1 s1 r1 => ⟨F1, O1, S, _, s1.rs, sr.mono s1.sub, h1, fun y O2 h2 w H2 F2 s2 r2 =>
      liftPairs s2.rs (sr.mono (s1.trans s2).sub) h2 fun ps O3 h3 vs H3 F3 s3 r3 => fin _ _ h3 _ H3 F3 (s1.trans (s2.trans s3)) (.cons ⟨r1.mono (s2.trans s3).sub, r2.mono s3.sub⟩ r3)⟩⟩
structure DPPs (X : Cx) (pos : Pos) (keys : List (Option Expr)) (values : List Expr) (trs : List (DTE × DTE)) : Prop where
  pps : PPs X pos keys values (trs.map fun p => (liftE X.K p.1, liftE X.K p.2))
def kvsOf : List (DV × DV) → Option (List (Key × DV))
  | [] => some []
  | (k, v) :: r => match keyD k, kvsOf r with
    | some k', some r' => some ((k', v) :: r')
    | _, _ => none
theorem kvsOf_at {K : PySem.W.Frag} {F : Hp} : ∀ {vs : List (V × V)} {ps : List (DV × DV)} {es : List (Key × DV)}, RepVV K F vs ps → kvsOf ps = some es → ∃ kvs, vs = kvs.map (fun kv => (kV kv.1, kv.2)) ∧ RepK K F kvs es
  | _, _, _, .nil, h => by cases h; exact ⟨[], rfl, .nil⟩
  | _, _, _, .cons (a := (p1, p2)) (b := (a, b)) r q, h => by
    unfold kvsOf at h
    split at h
    · rename_i k' r' e1 e2
      cases h
      obtain ⟨kvs, h1, h2⟩ := kvsOf_at q e2
      have := keyD_at r.1 e1
      subst h1
      have this : p1 = kV k' := this
      subst this
      exact ⟨(k', p2) :: kvs, rfl, .cons r.2 h2⟩
    · cases h
/-- {k: v, ..}, owned -/
def dDisp (trs : List (DTE × DTE)) : DTE := fun S O Q => dPairs trs S O fun ps O1 => onSome (kvsOf ps) fun es => es.length ≤ 15 ∧ ∀ p, O1 p = none → Q (.ref p) (oset O1 p (.dK (dmerge [] es)))
section
variable {X : Cx} {pos : Pos}
theorem dpp_nil : DPPs X pos [] [] [] := ⟨pps_nil⟩
theorem dpp_cons {k v : Expr} {ks : List (Option Expr)} {vs : List Expr} {tk tv : DTE} {trs : List (DTE × DTE)} (hk : DE X k tk) (hv : DE X v tv) (hr : DPPs X pos ks vs trs) : DPPs X pos (some k :: ks) (v :: vs) ((tk, tv) :: trs) := ⟨pps_cons hk.pe hv.pe hr.pps⟩
theorem de_disp {keys : List (Option Expr)} {values : List Expr} {trs : List (DTE × DTE)} (h : DPPs X pos keys values trs) (hall : keys.all (·.isSome) = true := by rfl) (hl : keys.length = values.length := by rfl) (h0 : keys ≠ [] := by exact fun z => nomatch z)
    (h15 : keys.length ≤ 15 := by decide) : DE X (.Dict keys values pos) (dDisp trs) := by
  refine ⟨PE_imp (pe_disp h.pps hall hl h0 h15) ?_⟩
  rintro σ H VQ ⟨F, O, S, Q, rs, sr, h, fin⟩ p hp
  obtain ⟨hf, ho⟩ := rs.free hp
  have s0 := (Stp.refl rs).side hp hf ho (.dK [])
  refine liftPairs s0.rs sr h fun ps O1 h1 vs H1 F1 s1 r1 => ?_
  obtain ⟨es, e, h1⟩ := onSome_ex h1
  · obtain ⟨kvs, h2, r2⟩ := kvsOf_at r1 e
    obtain ⟨k1, k2⟩ := s1.keep p _ upd_same ho
    have k3 := s1.nof p _ upd_same ho hf
    refine ⟨k1, kvs, h2, by rw [r2.len]; exact h1.1, fin _ _ (h1.2 p k2) _ _ F1 ⟨s1.sub, ⟨fun b u e => ?_, fun b c e => ?_⟩, fun b u q1 q2 => ?_, fun b u q1 q2 q3 => ?_⟩ (.ref p)⟩
    · have hb : b ≠ p := fun z => by subst z; rw [k3] at e; cases e
      rw [upd_ne hb]; exact s1.rs.fro b u e
    · by_cases hb : b = p
      · subst hb; rw [oset_same] at e; cases e
        exact ⟨k3, _, upd_same, RepK.merge r2 .nil⟩
      · rw [oset_ne hb] at e
        obtain ⟨h3, h4⟩ := s1.rs.own b c e
        exact ⟨h3, h4.mono (Sub.refl _) (upd_ne hb)⟩
    · have hb : b ≠ p := fun z => by subst z; rw [hp] at q1; cases q1
      obtain ⟨z1, z2⟩ := s1.keep b u (by rw [upd_ne hb]; exact q1) q2
      exact ⟨by rw [upd_ne hb]; exact z1, by rw [oset_ne hb]; exact z2⟩
    · have hb : b ≠ p := fun z => by subst z; rw [hp] at q1; cases q1
      exact s1.nof b u (by rw [upd_ne hb]; exact q1) q2 q3
def dDNew (c : Cell) : DTE := fun _ O Q => ∀ p, O p = none → Q (.ref p) (oset O p c)
theorem de_dnewK : DE X (.Dict [] [] pos) (dDNew (.dK [])) := by
  refine ⟨PE_imp pe_dnewK ?_⟩
  rintro σ H VQ ⟨F, O, S, Q, rs, sr, h, fin⟩ p hp
  exact fin _ _ (h p (rs.free hp).2) _ _ F (rs.newO hp ⟨_, upd_same, .nil⟩) (.ref p)
theorem de_dnewT : DE X (.Dict [] [] pos) (dDNew (.dT [])) := by
  refine ⟨PE_imp pe_dnewT ?_⟩
  rintro σ H VQ ⟨F, O, S, Q, rs, sr, h, fin⟩ p hp
  exact fin _ _ (h p (rs.free hp).2) _ _ F (rs.newO hp ⟨_, upd_same, .nil⟩) (.ref p)
end

/-! ### d.update(e) -/
def rUpd : V → List V → Hp → VK → Prop := fun x xs H Q => ∃ a b kvs more, x = .ref a ∧ xs = [.ref b] ∧ a ≠ b ∧ H a = some (.dK kvs) ∧ Rd H b (.dK more) ∧ kvs.length + more.length ≤ sizeLine ∧ Q .non (upd H a (.dK (mergeK kvs more)))
theorem mt_update {X : Cx} : MtR X "dict.update" rUpd := by
  intro pins s σ H x xs v us Q I rx rxs h
  obtain ⟨a, b, kvs, more, rfl, rfl, hab, ha, hb, hz, q⟩ := h
  obtain rfl : v = Value.ref a := rx
  obtain ⟨u, rfl, ru⟩ := rxs.one
  obtain rfl : u = Value.ref b := ru
  obtain ⟨z, hd, vs, rel, dd⟩ := dk_of I.hok ha
  obtain ⟨z2, hd2, vs2, rel2, dd2⟩ := dk_rd I.hok hb
  refine call_meetsIn PySem.F.slot_dict_update dd.typeIs PySem.F.entry_dict_update (PySem.F.args_dict_update_2 _ _) (meets_dict_update (mixKind X.prog X.w) a b hab hd2) ⟨vs, vs2, dd, dd2, by rw [← rel.length, ← rel2.length]; exact hz, fun h' dd' _ hs => ?_⟩
  have he : ∃ q, h'.get? a = some q := let ⟨q, _, _, hq, _⟩ := dd'; ⟨q, hq⟩
  have hz' : (mergeK kvs more).length ≤ sizeLine := Nat.le_trans (length_mergeK more kvs) hz
  exact ⟨.non, _, d_write (t' := s.toks) I (by rw [ha]; exact True.intro) hs he (dk_new hz' hd (KV.merge rel2 rel) dd'), rfl, q⟩
def apart (a : Addr) : DV → Prop
  | .ref b => a ≠ b
  | _ => True
def dUpd : DV → List DV → Own → DVK → Prop
  | .ref a, [d], O, Q => onK (O a) fun es => dkQ O d fun em => apart a d ∧ es.length + em.length ≤ 1000000 ∧ Q .non (oset O a (.dK (dmerge es em)))
  | _, _, _, _ => False
theorem md_update {X : Cx} (_ : X.A.units + 1 < cLine) : MtD X "dict.update" dUpd := by
  refine ⟨MtR_imp mt_update ?_⟩
  rintro x xs H VQ ⟨F, O, d, ds, Q, rs, rx, rr, h, fin⟩
  unfold dUpd at h
  split at h
  · rename_i a y
    cases rx
    obtain ⟨v, rfl, ry⟩ := rr.one
    obtain ⟨es, e1, h⟩ := onK_ex h
    obtain ⟨em, e2, h⟩ := dkQ_ex h
    · obtain ⟨hf, kvs, h1, r1⟩ := rs.own a _ e1
      obtain ⟨b, more, rfl, h2, r2⟩ := dkOf_at rs ry e2
      refine ⟨a, b, kvs, more, rfl, rfl, ?_, h1, h2, ?_, fin _ _ h.2.2 _ _ F (rs.write e1 ⟨_, upd_same, RepK.merge r2 r1⟩) .non⟩
      · cases ry with
        | ref b => exact h.1
        | dK e _ => intro z; subst z; rw [hf] at e; cases e
        | _ => cases e2
      · rw [r1.len, r2.len]
        have := sizeLine_eq
        have := h.2.1
        omega
  · exact h.elim

/-! ### text * int -/
def repS (x : Str) (n : Int) : Str := ⟨(List.replicate n.toNat (tl x)).flatten.toArray⟩
theorem mul_repS (x : Str) (n : Int) : Txt.mul x n = repS x n := by
  apply ext_tl
  unfold Txt.mul repS
  by_cases h1 : n < 1
  · rw [if_pos h1]
    have : n.toNat = 0 := by omega
    rw [this]; rfl
  · rw [if_neg h1]
    by_cases h2 : (n == 1 || x.length == 0) = true
    · rw [if_pos h2]
      rcases Bool.or_eq_true_iff.mp h2 with h3 | h3
      · have : n = 1 := by simpa using h3
        subst this
        simp [TL.tl]
      · have : tl x = [] := (TL.len0_tl x).mp (by simpa using h3)
        rw [this]; simp [TL.tl]
    · rw [if_neg h2]
      have key : ∀ (k : Nat) (acc : Array Nat), (List.foldl (fun x1 x2 => x1 ++ x2) acc (List.replicate k x.cps)).toList = acc.toList ++ (List.replicate k x.cps.toList).flatten := by
        intro k
        induction k with
        | zero => intro acc; simp
        | succ k ih => intro acc; rw [List.replicate_succ, List.foldl_cons, ih, List.replicate_succ, List.flatten_cons]; simp
      show (List.foldl (fun x1 x2 => x1 ++ x2) #[] (List.replicate n.toNat x.cps)).toList = _
      rw [key]; simp [TL.tl]
def dMulS : DV → DV → Own → DVK → Prop
  | .str z, .int n, O, Q => (n < 1000000 ∧ -1000000 < n ∧ z.length < 8) ∧ Q (.str (repS z n)) O
  | _, _, _, _ => False
theorem od_mulS {X : Cx} : OpD X (binaryOp .Mult) dMulS := by
  refine ⟨fun pins s σ H x y v u VQ I rx ry h => ?_⟩
  obtain ⟨F, O, dx, dy, Q, rs, rdx, rdy, h, fin⟩ := h
  unfold dMulS at h
  split at h
  · rename_i z n
    cases rdx; cases rdy
    obtain ⟨⟨c1, c2, c3⟩, q⟩ := h
    obtain ⟨t, rfl⟩ := rx
    obtain ⟨t', rfl⟩ := ry
    refine SB.mul (n := n) ⟨?_, fun h1 _ => ?_, fun h1 _ => ?_⟩ fun t2 k => ?_
    · have h1 : ¬ n < -(2 ^ 63 : Int) := by omega
      have h2 : ¬ n ≥ 2 ^ 63 := by omega
      rw [decide_eq_false h1, decide_eq_false h2]; rfl
    · intro h3
      have h4 : (2 ^ 63 - 1) / 1000000 ≤ (2 ^ 63 - 1) / n := by
        have : (0 : Int) < n := by omega
        have h5 : n * ((2 ^ 63 - 1) / 1000000) ≤ 2 ^ 63 - 1 := by
          have : ((2 : Int) ^ 63 - 1) / 1000000 = 9223372036854 := by decide
          rw [this]; omega
        exact (Int.le_ediv_iff_mul_le this).mpr (by rw [Int.mul_comm]; exact h5)
      have h6 : ((2 : Int) ^ 63 - 1) / 1000000 = 9223372036854 := by decide
      omega
    · show Builtin.Str.tooLong _ = false
      have hb : z.length * n.toNat ≤ 7 * 1000000 := Nat.mul_le_mul (by omega) (by omega)
      unfold Builtin.Str.tooLong
      simp only [decide_eq_false_iff_not]
      have := sizeLine_eq
      omega
    · rw [mul_repS]
      exact ⟨.str _, H, I.tok _, ⟨_, rfl⟩, fin _ _ q _ _ F (.refl rs) (.str _)⟩
  · exact h.elim
end DL

set_option Elab.async false
set_option linter.all false
set_option maxRecDepth 100000
/-! DTwo: a list comprehension of two clauses, over data. -/
namespace DL
open PySem PySem.Spec PyProof.Rows L2 TL

def lcG (b : DV → DSt → Option DSt) (tt : DTT) (te : DTE) (S : DSt) (R : List DV → Own → Prop) : List DV → List DV → Own → Prop
  | [], acc, O => R acc O
  | x :: r, acc, O => onSome (b x S) fun S2 => tt S2 O fun c O2 => if c = true then te S2 O2 fun y O3 => acc.length < 16000000 ∧ lcG b tt te S R r (acc ++ [y]) O3 else lcG b tt te S R r acc O2
def lc2W (ow : Bool) (b : DV → DSt → Option DSt) (tt : DTT) (di1 : DTI) (b1 : DV → DSt → Option DSt) (tt1 : DTT) (te : DTE) (vs1 : List Nat) (S : DSt) (Q : DVK) : List DV → List DV → Own → Prop
  | [], acc, O => endLc ow Q acc O
  | x :: r, acc, O => onSome (b x S) fun S2 => tt S2 O fun c O2 => if c = true then di1 S2 O2 fun ds1 O3 => lcG b1 tt1 te (dwipe S2 vs1) (lc2W ow b tt di1 b1 tt1 te vs1 S Q r) ds1 acc O3 else lc2W ow b tt di1 b1 tt1 te vs1 S Q r acc O2
def dLc2 (ow : Bool) (di : DTI) (b : DV → DSt → Option DSt) (tt : DTT) (di1 : DTI) (b1 : DV → DSt → Option DSt) (tt1 : DTT) (te : DTE) (vs vs1 : List Nat) : DTE := fun S O Q => di S O fun ds O1 => lc2W ow b tt di1 b1 tt1 te vs1 (dwipe S vs) Q ds [] O1
theorem Stp.freezeSide {K : PySem.W.Frag} {F H F' H' : Hp} {O O' : Own} {D : Addr} {o : HO} (s' : Stp K F O H F' O' H') (hD : H D = none) (hd' : H' D = some o) (hf' : F' D = none) (ho' : O' D = none) : Stp K F O H (upd F' D o) O' H' := by
  refine ⟨s'.sub.trans (Sub.upd hf'), ⟨fun b u e => ?_, fun b c e => ?_⟩, s'.keep, fun b u h1 h2 h3 => ?_⟩
  · by_cases hb : b = D
    · subst hb; rw [upd_same] at e; cases e; exact .inl hd'
    · rw [upd_ne hb] at e; exact s'.rs.fro b u e
  · have hb : b ≠ D := fun z => by subst z; rw [ho'] at e; cases e
    obtain ⟨h3, h4⟩ := s'.rs.own b c e
    exact ⟨by rw [upd_ne hb]; exact h3, h4.mono (Sub.upd hf') rfl⟩
  · rw [upd_ne (fun z => by subst z; rw [hD] at h1; cases h1)]; exact s'.nof b u h1 h2 h3
theorem liftLc2 {K : PySem.W.Frag} {ow : Bool} {di di1 : DTI} {g g1 : TG} {b b1 : DV → DSt → Option DSt} {tt tt1 : DTT} {te : DTE} {vs vs1 : List Nat} (hg : TgtOk K g b vs) (hg1 : TgtOk K g1 b1 vs1) {σ : L2.St} {H : Hp} {VQ : VK} (h : liftE K (dLc2 ow di b tt di1 b1 tt1 te vs vs1) σ H VQ) :
    tLc2 (liftI K di) g (liftT K tt) (liftI K di1) g1 (liftT K tt1) (liftE K te) vs vs1 σ H VQ := by
  obtain ⟨F, O, S, Q, rs, sr, h, fin⟩ := h
  refine ⟨F, O, S, _, rs, sr, h, fun ds O1 h1 J H1 F1 s1 y D hD => ?_⟩
  obtain ⟨hf1, ho1⟩ := s1.rs.free hD
  let Wd (R : List DV → Own → Prop) (H' : Hp) : Prop := ∃ F' O' acc vacc, Stp K F1 O1 H1 F' O' H' ∧ H' D = some (.lst vacc) ∧ F' D = none ∧ O' D = none ∧ Reps K F' vacc acc ∧ R acc O'
  refine ⟨fun i m H' => m = ds.length - i ∧ Wd (lc2W ow b tt di1 b1 tt1 te vs1 (dwipe S vs) Q (ds.drop i)) H',
    ⟨_, rfl, F1, O1, [], [], (Stp.refl s1.rs).side hD hf1 ho1 _, upd_same, hf1, ho1, .nil, h1⟩, ?_⟩
  rintro i m H' ⟨em, F', O', acc, vacc, s', hd', hf', ho', ra, h'⟩
  obtain ⟨y1, y2⟩ := y i O' H' F' s'.sub s'.rs
  by_cases hi : i < ds.length
  · have e0 : ds[i]? = some ds[i] := List.getElem?_eq_getElem hi
    rw [List.drop_eq_getElem_cons hi] at h'
    obtain ⟨hgo, hy⟩ := y1 _ e0
    refine .inr ⟨hgo, fun H2 => Wd (lc2W ow b tt di1 b1 tt1 te vs1 (dwipe S vs) Q (ds.drop (i + 1))) H2, fun H2 q => ⟨_, ?_, rfl, q⟩, fun x H2 q => ?_⟩
    · omega
    · obtain ⟨F3, s3, r3⟩ := hy x H2 q
      unfold lc2W at h'
      obtain ⟨S2, e2, h'⟩ := onSome_ex h'
      · refine hg.ok s3.rs r3 (((sr.mono s1.sub).mono s'.sub).mono s3.sub |>.wipe vs) e2 fun σ2 sr2 ew => ⟨ew.trans (wipe_wipe fun _ h => h), F3, O', S2, _, s3.rs, sr2, h', fun c O4 h4 H4 F4 s4 => ?_⟩
        have st4 := s3.trans s4
        dsimp only at h4 ⊢
        split
        · rename_i e; rw [if_pos e] at h4
          refine ⟨F4, O4, S2, _, s4.rs, sr2.mono s4.sub, h4, fun ds1 O5 h5 J1 H5 F5 s5 z => ?_⟩
          have st5 := st4.trans s5
          obtain ⟨k1, k2⟩ := st5.keep D _ hd' ho'
          have k3 := st5.nof D _ hd' ho' hf'
          -- the inner loop
          refine ⟨fun j k H' => k = ds1.length - j ∧ ∃ F' O' acc vacc, Stp K F1 O1 H1 F' O' H' ∧ Sub F5 F' ∧ H' D = some (.lst vacc) ∧ F' D = none ∧ O' D = none ∧ Reps K F' vacc acc ∧ lcG b1 tt1 te (dwipe S2 vs1) (lc2W ow b tt di1 b1 tt1 te vs1 (dwipe S vs) Q (ds.drop (i + 1))) (ds1.drop j) acc O',
            ⟨_, rfl, F5, O5, acc, vacc, s'.trans st5, Sub.refl _, k1, k3, k2, ra.mono st5.sub, h5⟩, ?_⟩
          rintro j k H6 ⟨ek, F6, O6, acc6, vacc6, s6, sb6, hd6, hf6, ho6, ra6, h6⟩
          obtain ⟨z1, z2⟩ := z j O6 H6 F6 sb6 s6.rs
          by_cases hj : j < ds1.length
          · have e1 : ds1[j]? = some ds1[j] := List.getElem?_eq_getElem hj
            rw [List.drop_eq_getElem_cons hj] at h6
            obtain ⟨hgo1, hy1⟩ := z1 _ e1
            refine .inr ⟨hgo1, fun H' => ∃ F' O' acc vacc, Stp K F1 O1 H1 F' O' H' ∧ Sub F5 F' ∧ H' D = some (.lst vacc) ∧ F' D = none ∧ O' D = none ∧ Reps K F' vacc acc ∧ lcG b1 tt1 te (dwipe S2 vs1) (lc2W ow b tt di1 b1 tt1 te vs1 (dwipe S vs) Q (ds.drop (i + 1))) (ds1.drop (j + 1)) acc O', fun H2 q => ⟨_, ?_, rfl, q⟩, fun x H7 q => ?_⟩
            · omega
            · obtain ⟨F7, s7, r7⟩ := hy1 x H7 q
              unfold lcG at h6
              obtain ⟨S3, e3, h6⟩ := onSome_ex h6
              · refine hg1.ok s7.rs r7 ((sr2.mono s4.sub).mono (s5.sub.trans (sb6.trans s7.sub)) |>.wipe vs1) e3 fun σ3 sr3 ew3 => ⟨ew3.trans (wipe_wipe fun _ h => h), F7, O6, S3, _, s7.rs, sr3, h6, fun c8 O8 h8 H8 F8 s8 => ?_⟩
                have st8 := s7.trans s8
                dsimp only at h8 ⊢
                split
                · rename_i e; rw [if_pos e] at h8
                  refine ⟨F8, O8, S3, _, s8.rs, sr3.mono s8.sub, h8, fun d O9 h9 v H9 F9 s9 r9 => ?_⟩
                  have st9 := st8.trans s9
                  obtain ⟨k1, k2⟩ := st9.keep D _ hd6 ho6
                  have k3 := st9.nof D _ hd6 ho6 hf6
                  exact ⟨vacc6, k1, by rw [ra6.len]; exact lc_line h9.1, F9, O9, _, _, (s6.trans st9).side hD k3 k2 _, sb6.trans st9.sub, upd_same, k3, k2, (ra6.mono st9.sub).append (.cons r9 .nil), h9.2⟩
                · rename_i e; rw [if_neg e] at h8
                  obtain ⟨k1, k2⟩ := st8.keep D _ hd6 ho6
                  have k3 := st8.nof D _ hd6 ho6 hf6
                  exact ⟨F8, O8, acc6, vacc6, s6.trans st8, sb6.trans st8.sub, k1, k3, k2, ra6.mono st8.sub, h8⟩
          · have e9 : ds1.drop j = [] := List.drop_eq_nil_of_le (by omega)
            rw [e9] at h6
            exact .inl ⟨z2 (by omega), F6, O6, acc6, vacc6, s6, hd6, hf6, ho6, ra6, h6⟩
        · rename_i e; rw [if_neg e] at h4
          obtain ⟨k1, k2⟩ := st4.keep D _ hd' ho'
          have k3 := st4.nof D _ hd' ho' hf'
          exact ⟨F4, O4, acc, vacc, s'.trans st4, k1, k3, k2, ra.mono st4.sub, h4⟩
  · rw [List.drop_eq_nil_of_le (by omega)] at h'
    exact .inl ⟨y2 (by omega), endLc_ok s' hD hd' hf' ho' ra h' (fin.step s1)⟩
section
variable {X : Cx}
theorem de_lc2 (ow : Bool) {elt tg iter tg1 iter1 : Expr} {ifs ifs1 : List Expr} {scope : Scope} {own : List (Str × Nat)} {vs1 : List Nat} {pos : Pos} {di di1 : DTI} {g g1 : TG} {b b1 : DV → DSt → Option DSt} {tt tt1 : DTT} {te : DTE} (hc : X.calm = true) (hN : X.N.Nodup) (hi : DI X tg iter di) (ok : BlkOk X.N X.env.scope scope own) (hv : ∀ i ∈ vs1, i ∈ own.map (·.2))
    (hT : TgtOk X.K g b (own.map (·.2))) (hT1 : TgtOk X.K g1 b1 vs1)
    (hg : ∀ (s : Shared) (H : Hp) (C : Addr) (cl : List (Str × Addr)) (fp : List Addr), PG (X.blk s H scope (compEnvC scope cl C X.env) fp) tg g) (ht : ∀ (s : Shared) (H : Hp) (C : Addr) (cl : List (Str × Addr)) (fp : List Addr), DTs (X.blk s H scope (compEnvC scope cl C X.env) fp) ifs tt)
    (hi1 : ∀ (s : Shared) (H : Hp) (C : Addr) (cl : List (Str × Addr)) (fp : List Addr), DI (X.blk s H scope (compEnvC scope cl C X.env) fp) tg1 iter1 di1)
    (hg1 : ∀ (s : Shared) (H : Hp) (C : Addr) (cl : List (Str × Addr)) (fp : List Addr), PG (X.blk s H scope (compEnvC scope cl C X.env) fp) tg1 g1) (ht1 : ∀ (s : Shared) (H : Hp) (C : Addr) (cl : List (Str × Addr)) (fp : List Addr), DTs (X.blk s H scope (compEnvC scope cl C X.env) fp) ifs1 tt1)
    (he : ∀ (s : Shared) (H : Hp) (C : Addr) (cl : List (Str × Addr)) (fp : List Addr), DE (X.blk s H scope (compEnvC scope cl C X.env) fp) elt te) (hs : ∀ x, foldedSetIterable iter X.env x = pure x := by intro _; rfl) (hs1 : ∀ env x, foldedSetIterable iter1 env x = pure x := by intro _ _; rfl) :
    DE X (.ListComp elt [⟨tg, iter, ifs, 0⟩, ⟨tg1, iter1, ifs1, 0⟩] scope pos) (dLc2 ow di b tt di1 b1 tt1 te (own.map (·.2)) vs1) :=
  ⟨PE_imp (pe_lc2 (te := liftE X.K te) (tt := liftT X.K tt) (tt1 := liftT X.K tt1) (wi1 := liftI X.K di1) hc hN hi.pi ok hv hg (fun s H C cl fp => (ht s H C cl fp).pts) (fun s H C cl fp => (hi1 s H C cl fp).pi) hg1 (fun s H C cl fp => (ht1 s H C cl fp).pts) (fun s H C cl fp => (he s H C cl fp).pe) hs hs1) fun _ _ _ h => liftLc2 hT hT1 h⟩
end
end DL

namespace DL
open PySem PySem.Spec PyProof.Rows L2 TL
/-- the text keys of a written dict -/
def KeyList : List DictEntry → List Str → Prop
  | [], [] => True
  | e :: es, x :: xs => (∃ t, e.key = .str x t) ∧ KeyList es xs
  | _, _ => False
theorem keyList_find : ∀ {es : List DictEntry} {xs : List Str} (z : Str), KeyList es xs → (es.find? (·.key.isStr z)).isSome = decide (z ∈ xs) ∧ es.any (·.refKey) = false
  | [], [], z, _ => by simp
  | e :: es, x :: xs, z, ⟨⟨t, h⟩, q⟩ => by
    obtain ⟨h1, h2⟩ := keyList_find z q
    have hk : e.key.isStr z = decide (x = z) := by
      rw [h]
      show (x == z) = _
      by_cases e : x = z
      · subst e; simp
      · rw [decide_eq_false e]; exact beq_eq_false_iff_ne.mpr e
    have hr : e.refKey = false := by unfold DictEntry.refKey; rw [h]
    refine ⟨?_, by simp [hr, h2]⟩
    rw [List.find?_cons, hk]
    by_cases e0 : x = z
    · simp [e0]
    · have e1 : ¬ z = x := fun w => e0 w.symm
      simp [e0, e1, h1]
  | [], _ :: _, _, h => h.elim
  | _ :: _, [], _, h => h.elim
/-- x in a dict of the module that has these text keys -/
def dInL (a : Addr) (xs : List Str) : DV → DV → Own → DVK → Prop
  | .str z, .ref b, O, Q => b = a ∧ Q (.bl (decide (z ∈ xs))) O
  | _, _, _, _ => False
theorem od_inL {X : Cx} {a : Addr} {es : Array DictEntry} {n : Nat} {xs : List Str} (D : KDict X.K X.w a es n) (hx : KeyList es.toList xs) : OpD X (compareOp .In) (dInL a xs) := by
  refine ⟨OpR_imp (od_inK D).op ?_⟩
  rintro x y H VQ ⟨F, O, dx, dy, Q, rs, rx, ry, h, fin⟩
  refine ⟨F, O, dx, dy, Q, rs, rx, ry, ?_, fin⟩
  unfold dInL at h
  split at h
  · rename_i z b
    obtain ⟨rfl, h⟩ := h
    obtain ⟨h1, h2⟩ := keyList_find z hx
    refine ⟨rfl, (es.toList.find? (·.key.isStr z)).map (·.val), ?_, ?_⟩
    · unfold PySem.W.nsIn
      rw [D.at_]
      dsimp only
      cases e : es.toList.find? (·.key.isStr z) with
      | some v => rfl
      | none => simp [h2]
    · have e : ((es.toList.find? (·.key.isStr z)).map (·.val)).isSome = decide (z ∈ xs) := by rw [← h1]; cases es.toList.find? (·.key.isStr z) <;> rfl
      rw [e]
      simpa using h
  · exact h.elim
end DL

set_option Elab.async false
set_option linter.all false
set_option maxRecDepth 100000
/-! DMath: small facts about texts, places, lists. -/
namespace DL
open PySem PySem.Spec PyProof.Rows L2 TL

abbrev ofL (l : List Nat) : Str := ⟨l.toArray⟩
theorem tl_ofL (l : List Nat) : tl (ofL l) = l := rfl
theorem ofL_tl (x : Str) : ofL (tl x) = x := mk_tl x
theorem ofL_inj {a b : List Nat} (h : ofL a = ofL b) : a = b := by
  have := congrArg tl h
  simpa using this
theorem str_ext {x y : Str} : x = y ↔ tl x = tl y := ⟨fun h => h ▸ rfl, ext_tl⟩
theorem ofL_app (a b : List Nat) : ofL a ++ ofL b = ofL (a ++ b) := ext_tl (by rw [tl_append])
theorem app_ofL (x y : Str) : x ++ y = ofL (tl x ++ tl y) := ext_tl (by rw [tl_append])
theorem ofL_len (l : List Nat) : (ofL l).length = l.length := by rw [len_tl]
theorem line_of {n : Nat} (h : n ≤ 16000000) : n ≤ sizeLine := by
  have := sizeLine_eq
  omega
theorem atI_pos {α : Type} {l : List α} {i : Int} (h : 0 ≤ i) : atI l i = l[i.toNat]? := by
  unfold atI ixN
  rw [if_pos h]
  split
  · rfl
  · rename_i q
    rw [List.getElem?_eq_none (by omega)]; rfl
theorem atI_nat_ {α : Type} {l : List α} (i : Nat) : atI l (i : Int) = l[i]? := by
  rw [atI_pos (Int.natCast_nonneg i)]; rfl
theorem atI_neg1 {α : Type} {l : List α} (h : l ≠ []) : atI l (-1) = l.getLast? := by
  unfold atI ixN
  have hl : 0 < l.length := List.length_pos_iff.mpr h
  rw [if_neg (by decide), if_pos (by omega)]
  have e : (-1 + (l.length : Int)).toNat = l.length - 1 := by omega
  show l[(-1 + (l.length : Int)).toNat]? = _
  rw [e, List.getLast?_eq_getElem?]
theorem cut_int {z : Str} {i j : Int} (hi : 0 ≤ i) (hj : 0 ≤ j) : cutS z (some i) (some j) = ofL (((tl z).drop i.toNat).take (j.toNat - i.toNat)) := by
  apply ext_tl
  unfold cutS
  rw [len_tl]
  have e1 : HT.sIx (tl z).length 0 (some i) = min i.toNat (tl z).length := by
    show (if i < 0 then _ else min i.toNat (tl z).length) = _
    rw [if_neg (by omega)]
  have e2 : HT.sIx (tl z).length (tl z).length (some j) = min j.toNat (tl z).length := by
    show (if j < 0 then _ else min j.toNat (tl z).length) = _
    rw [if_neg (by omega)]
  rw [e1, e2]
  show ((tl z).drop _).take _ = ((tl z).drop i.toNat).take (j.toNat - i.toNat)
  by_cases h : (tl z).length ≤ i.toNat
  · rw [Nat.min_eq_right h, List.drop_eq_nil_of_le (Nat.le_refl _), List.drop_eq_nil_of_le h]; simp
  · have m1 : min i.toNat (tl z).length = i.toNat := by omega
    rw [m1]
    by_cases h2 : j.toNat ≤ (tl z).length
    · rw [Nat.min_eq_left h2]
    · have m2 : min j.toNat (tl z).length = (tl z).length := by omega
      rw [m2]
      rw [List.take_of_length_le (by rw [List.length_drop]; omega), List.take_of_length_le (by rw [List.length_drop]; omega)]
theorem ite_t {A B : Prop} {c : Prop} [Decidable c] (h : c) (x : A) : if c then A else B := by rw [if_pos h]; exact x
theorem ite_f {A B : Prop} {c : Prop} [Decidable c] (h : ¬ c) (x : B) : if c then A else B := by rw [if_neg h]; exact x
theorem ite_c {A B : Prop} {c : Prop} [Decidable c] (h : c → A) (h2 : ¬ c → B) : if c then A else B := by
  by_cases q : c
  · rw [if_pos q]; exact h q
  · rw [if_neg q]; exact h2 q
end DL
namespace DL
open PySem PySem.Spec PyProof.Rows L2 TL
theorem tl_one (c : Nat) : tl (⟨#[c]⟩ : Str) = [c] := rfl
end DL
namespace DL
open PySem PySem.Spec PyProof.Rows L2 TL
/-- a comprehension whose turns change nothing owned -/
theorem lcW_pure {ow : Bool} {b : DV → DSt → Option DSt} {te : DTE} {S : DSt} {Q : DVK} {O : Own} : ∀ (xs ys acc : List DV), xs.length = ys.length → acc.length + xs.length < 16000000 →
    (∀ (i : Nat) (x y : DV), xs[i]? = some x → ys[i]? = some y → ∀ K : DVK, K y O → onSome (b x S) fun S2 => te S2 O K) → endLc ow Q (acc ++ ys) O → lcW ow b dYes te S Q xs acc O
  | [], [], acc, _, _, _, h => by rw [List.append_nil] at h; exact h
  | [], _ :: _, _, h, _, _, _ => by cases h
  | _ :: _, [], _, h, _, _, _ => by cases h
  | x :: xs, y :: ys, acc, hl, ha, hs, h => by
    have h1 := hs 0 x y rfl rfl (fun y' O3 => acc.length < 16000000 ∧ lcW ow b dYes te S Q xs (acc ++ [y']) O3) ⟨by omega, ?_⟩
    · unfold lcW
      obtain ⟨S2, e, h2⟩ := onSome_ex h1
      exact onSome_of e h2
    · refine lcW_pure xs ys (acc ++ [y]) (by simpa using hl) (by simp at *; omega) (fun i x y e1 e2 => hs (i + 1) x y (by simpa using e1) (by simpa using e2)) ?_
      rw [List.append_assoc]; exact h
theorem lcG_pure {b : DV → DSt → Option DSt} {te : DTE} {S : DSt} {R : List DV → Own → Prop} {O : Own} : ∀ (xs ys acc : List DV), xs.length = ys.length → acc.length + xs.length < 16000000 →
    (∀ (i : Nat) (x y : DV), xs[i]? = some x → ys[i]? = some y → ∀ K : DVK, K y O → onSome (b x S) fun S2 => te S2 O K) → R (acc ++ ys) O → lcG b dYes te S R xs acc O
  | [], [], acc, _, _, _, h => by rw [List.append_nil] at h; exact h
  | [], _ :: _, _, h, _, _, _ => by cases h
  | _ :: _, [], _, h, _, _, _ => by cases h
  | x :: xs, y :: ys, acc, hl, ha, hs, h => by
    have h1 := hs 0 x y rfl rfl (fun y' O3 => acc.length < 16000000 ∧ lcG b dYes te S R xs (acc ++ [y']) O3) ⟨by omega, ?_⟩
    · unfold lcG
      obtain ⟨S2, e, h2⟩ := onSome_ex h1
      exact onSome_of e h2
    · refine lcG_pure xs ys (acc ++ [y]) (by simpa using hl) (by simp at *; omega) (fun i x y e1 e2 => hs (i + 1) x y (by simpa using e1) (by simpa using e2)) ?_
      rw [List.append_assoc]; exact h
end DL
namespace DL
open PySem PySem.Spec PyProof.Rows L2 TL
section
variable {α : Type} {l : List α} {n : Nat}
theorem atI_0 : atI l 0 = l[0]? := atI_nat_ 0
theorem atI_1 : atI l 1 = l[1]? := atI_nat_ 1
theorem atI_2 : atI l 2 = l[2]? := atI_nat_ 2
theorem atI_3 : atI l 3 = l[3]? := atI_nat_ 3
theorem atI_4 : atI l 4 = l[4]? := atI_nat_ 4
theorem atI_5 : atI l 5 = l[5]? := atI_nat_ 5
theorem atI_6 : atI l 6 = l[6]? := atI_nat_ 6
theorem atI_7 : atI l 7 = l[7]? := atI_nat_ 7
theorem ixN_nat {k : Nat} (h : k < n) : ixN n (k : Int) = some k := by
  unfold ixN
  rw [if_pos (by omega), if_pos (by omega)]; rfl
theorem ixN_0 : ixN (n + 1) 0 = some 0 := ixN_nat (k := 0) (by omega)
theorem ixN_1 : ixN (n + 2) 1 = some 1 := ixN_nat (k := 1) (by omega)
theorem ixN_2 : ixN (n + 3) 2 = some 2 := ixN_nat (k := 2) (by omega)
theorem ixN_3 : ixN (n + 4) 3 = some 3 := ixN_nat (k := 3) (by omega)
end
end DL

set_option Elab.async false
set_option linter.all false
set_option maxRecDepth 100000
set_option autoImplicit true
namespace DL
open PySem PySem.Spec PyProof.Rows L2 TL
theorem onSome_e1 {α : Type} {x : α} {K : α → Prop} : onSome (some x) K = K x := rfl
theorem onL_e1 {xs : _} {K : _} : onL  (some (.lst xs)) K = (K xs) := by first | rfl | (cases x <;> rfl)
theorem lstQ_e1 (O : Own) {xs : _} {K : _} : lstQ O (.lst xs) K = (K xs) := by first | rfl | (cases x <;> rfl)
theorem lstQ_e2 (O : Own) {a : _} {K : _} : lstQ O (.ref a) K = (onL (O a) K) := by first | rfl | (cases x <;> rfl)
theorem seqQ_e1 (O : Own) {xs : _} {K : _} : seqQ O (.lst xs) K = (K xs) := by first | rfl | (cases x <;> rfl)
theorem seqQ_e2 (O : Own) {xs : _} {K : _} : seqQ O (.slst xs) K = (K xs) := by first | rfl | (cases x <;> rfl)
theorem seqQ_e3 (O : Own) {xs : _} {K : _} : seqQ O (.tup xs) K = (K xs) := by first | rfl | (cases x <;> rfl)
theorem seqQ_e4 (O : Own) {xs : _} {K : _} : seqQ O (.stup xs) K = (K xs) := by first | rfl | (cases x <;> rfl)
theorem seqQ_e5 (O : Own) {a : _} {K : _} : seqQ O (.ref a) K = (onL (O a) K) := by first | rfl | (cases x <;> rfl)
theorem sqlQ_e1 (O : Own) {xs : _} {K : _} : sqlQ O (.lst xs) K = (K xs) := by first | rfl | (cases x <;> rfl)
theorem sqlQ_e2 (O : Own) {xs : _} {K : _} : sqlQ O (.slst xs) K = (K xs) := by first | rfl | (cases x <;> rfl)
theorem sqlQ_e3 (O : Own) {a : _} {K : _} : sqlQ O (.ref a) K = (onL (O a) K) := by first | rfl | (cases x <;> rfl)
theorem onK_e1 {es : _} {K : _} : onK  (some (.dK es)) K = (K es) := by first | rfl | (cases x <;> rfl)
theorem onT_e1 {es : _} {K : _} : onT  (some (.dT es)) K = (K es) := by first | rfl | (cases x <;> rfl)
theorem dkQ_e1 (O : Own) {es : _} {K : _} : dkQ O (.dK es) K = (K es) := by first | rfl | (cases x <;> rfl)
theorem dkQ_e2 (O : Own) {a : _} {K : _} : dkQ O (.ref a) K = (onK (O a) K) := by first | rfl | (cases x <;> rfl)
theorem dtQ_e1 (O : Own) {es : _} {K : _} : dtQ O (.dT es) K = (K es) := by first | rfl | (cases x <;> rfl)
theorem dtQ_e2 (O : Own) {a : _} {K : _} : dtQ O (.ref a) K = (onT (O a) K) := by first | rfl | (cases x <;> rfl)
theorem findQ_e1 (O : Own) (x : DV) {z : _} {K : _} : findQ O x (.str z) K = (dkQ O x fun es => K (dget es (.inr z))) := by first | rfl | (cases x <;> rfl)
theorem findQ_e2 (O : Own) (x : DV) {i : _} {K : _} : findQ O x (.int i) K = (dkQ O x fun es => K (dget es (.inl i))) := by first | rfl | (cases x <;> rfl)
theorem findQ_e3 (O : Own) (x : DV) {ds : _} {K : _} : findQ O x (.tup ds) K = (onSome (keysD ds) fun k => dtQ O x fun es => K (dget es k)) := by first | rfl | (cases x <;> rfl)
theorem dAdd_e1 {i : _} {j : _} {O : _} {Q : _} : dAdd  (.int i) (.int j) O Q = (Q (.int (i + j)) O) := by first | rfl | (cases x <;> rfl)
theorem dAdd_e2 {i : _} {k : _} {O : _} {Q : _} : dAdd  (.int i) (.bl k) O Q = (Q (.int (i + b2i k)) O) := by first | rfl | (cases x <;> rfl)
theorem dAdd_e3 {a : _} {b : _} {O : _} {Q : _} : dAdd  (.str a) (.str b) O Q = (a.length + b.length ≤ sizeLine ∧ Q (.str (a ++ b)) O) := by first | rfl | (cases x <;> rfl)
theorem dAdd_e4 {xs : _} {ys : _} {O : _} {Q : _} : dAdd  (.tup xs) (.tup ys) O Q = (xs.length + ys.length ≤ sizeLine ∧ Q (.tup (xs ++ ys)) O) := by first | rfl | (cases x <;> rfl)
theorem dAdd_e5 {xs : _} {ys : _} {O : _} {Q : _} : dAdd  (.lst xs) (.lst ys) O Q = (xs.length + ys.length ≤ sizeLine ∧ Q (.lst (xs ++ ys)) O) := by first | rfl | (cases x <;> rfl)
theorem dAdd_e6 {a : _} {y : _} {O : _} {Q : _} : dAdd  (.ref a) y O Q = (onL (O a) fun xs => lstQ O y fun ys => xs.length + ys.length ≤ sizeLine ∧ Q (.lst (xs ++ ys)) O) := by first | rfl | (cases x <;> rfl)
theorem dAdd_e7 {xs : _} {b : _} {O : _} {Q : _} : dAdd  (.lst xs) (.ref b) O Q = (onL (O b) fun ys => xs.length + ys.length ≤ sizeLine ∧ Q (.lst (xs ++ ys)) O) := by first | rfl | (cases x <;> rfl)
theorem dI2_e1 (C : Int → Int → Prop) (g : Int → Int → DV) {i : _} {j : _} {O : _} {Q : _} : dI2 C g (.int i) (.int j) O Q = (C i j ∧ Q (g i j) O) := by first | rfl | (cases x <;> rfl)
theorem dSub_e1 {i : _} {j : _} {O : _} {Q : _} : dSub  (.int i) (.int j) O Q = (Q (.int (i - j)) O) := by first | rfl | (cases x <;> rfl)
theorem dCmpI_e1 (p : Int → Int → Bool) {i : _} {j : _} {O : _} {Q : _} : dCmpI p (.int i) (.int j) O Q = (Q (.bl (p i j)) O) := by first | rfl | (cases x <;> rfl)
theorem dEq_e1 (neg : Bool) {i : _} {j : _} {O : _} {Q : _} : dEq neg (.int i) (.int j) O Q = (Q (.bl (if neg then !decide (i = j) else decide (i = j))) O) := by first | rfl | (cases x <;> rfl)
theorem dEq_e2 (neg : Bool) {i : _} {j : _} {O : _} {Q : _} : dEq neg (.str i) (.str j) O Q = (Q (.bl (if neg then !decide (i = j) else decide (i = j))) O) := by first | rfl | (cases x <;> rfl)
theorem dEq_e3 (neg : Bool) {i : _} {j : _} {O : _} {Q : _} : dEq neg (.bl i) (.bl j) O Q = (Q (.bl (if neg then !decide (i = j) else decide (i = j))) O) := by first | rfl | (cases x <;> rfl)
theorem dEq_e4 (neg : Bool) {xs : _} {y : _} {O : _} {Q : _} : dEq neg (.lst xs) y O Q = (dEqP neg (.lst xs) y O Q) := by first | rfl | (cases x <;> rfl)
theorem dEq_e5 (neg : Bool) {xs : _} {y : _} {O : _} {Q : _} : dEq neg (.tup xs) y O Q = (dEqP neg (.tup xs) y O Q) := by first | rfl | (cases x <;> rfl)
theorem dEq_e6 (neg : Bool) {xs : _} {y : _} {O : _} {Q : _} : dEq neg (.stup xs) y O Q = (dEqP neg (.stup xs) y O Q) := by first | rfl | (cases x <;> rfl)
theorem dEq_e7 (neg : Bool) {y : _} {O : _} {Q : _} : dEq neg (.non) y O Q = (dEqP neg .non y O Q) := by first | rfl | (cases x <;> rfl)
theorem dEq_e8 (neg : Bool) {i : _} {O : _} {Q : _} : dEq neg (.int i) (.non) O Q = (dEqP neg (.int i) .non O Q) := by first | rfl | (cases x <;> rfl)
theorem dEq_e9 (neg : Bool) {i : _} {y : _} {O : _} {Q : _} : dEq neg (.int i) (.str y) O Q = (dEqP neg (.int i) (.str y) O Q) := by first | rfl | (cases x <;> rfl)
theorem dEq_e10 (neg : Bool) {i : _} {y : _} {O : _} {Q : _} : dEq neg (.int i) (.tup y) O Q = (dEqP neg (.int i) (.tup y) O Q) := by first | rfl | (cases x <;> rfl)
theorem dEq_e11 (neg : Bool) {i : _} {y : _} {O : _} {Q : _} : dEq neg (.int i) (.lst y) O Q = (dEqP neg (.int i) (.lst y) O Q) := by first | rfl | (cases x <;> rfl)
theorem dEq_e12 (neg : Bool) {i : _} {O : _} {Q : _} : dEq neg (.str i) (.non) O Q = (dEqP neg (.str i) .non O Q) := by first | rfl | (cases x <;> rfl)
theorem dEq_e13 (neg : Bool) {i : _} {y : _} {O : _} {Q : _} : dEq neg (.str i) (.int y) O Q = (dEqP neg (.str i) (.int y) O Q) := by first | rfl | (cases x <;> rfl)
theorem dEq_e14 (neg : Bool) {i : _} {y : _} {O : _} {Q : _} : dEq neg (.str i) (.tup y) O Q = (dEqP neg (.str i) (.tup y) O Q) := by first | rfl | (cases x <;> rfl)
theorem dEq_e15 (neg : Bool) {i : _} {y : _} {O : _} {Q : _} : dEq neg (.str i) (.lst y) O Q = (dEqP neg (.str i) (.lst y) O Q) := by first | rfl | (cases x <;> rfl)
theorem dIsN_e1 (neg : Bool) {x : _} {O : _} {Q : _} : dIsN neg x (.non) O Q = (Q (.bl (if neg then !isNon x else isNon x)) O) := by first | rfl | (cases x <;> rfl)
theorem isNon_e1 : isNon  (.non) = (true) := by first | rfl | (cases x <;> rfl)
theorem dInS_e1 (neg : Bool) (z : Str) (O : Own) (Q : DVK) (c : Str) {k : _} : dInS neg z O Q c [k] = (Q (.bl (if neg then !decide (k ∈ tl z) else decide (k ∈ tl z))) O) := by first | rfl | (cases x <;> rfl)
theorem dIn_e1 (neg : Bool) {c : _} {z : _} {O : _} {Q : _} : dIn neg (.str c) (.str z) O Q = (dInS neg z O Q c (tl c)) := by first | rfl | (cases x <;> rfl)
theorem dIn_e2 (neg : Bool) {x : _} {xs : _} {O : _} {Q : _} : dIn neg x (.lst xs) O Q = (dInQ neg x (.lst xs) O Q) := by first | rfl | (cases x <;> rfl)
theorem dIn_e3 (neg : Bool) {x : _} {xs : _} {O : _} {Q : _} : dIn neg x (.slst xs) O Q = (dInQ neg x (.slst xs) O Q) := by first | rfl | (cases x <;> rfl)
theorem dIn_e4 (neg : Bool) {x : _} {xs : _} {O : _} {Q : _} : dIn neg x (.tup xs) O Q = (dInQ neg x (.tup xs) O Q) := by first | rfl | (cases x <;> rfl)
theorem dIn_e5 (neg : Bool) {x : _} {xs : _} {O : _} {Q : _} : dIn neg x (.stup xs) O Q = (dInQ neg x (.stup xs) O Q) := by first | rfl | (cases x <;> rfl)
theorem dIn_e6 (neg : Bool) {x : _} {xs : _} {O : _} {Q : _} : dIn neg x (.ref xs) O Q = (dInQ neg x (.ref xs) O Q) := by first | rfl | (cases x <;> rfl)
theorem dInK_e1 (K : PySem.W.Frag) (d : Addr) (neg : Bool) {z : _} {a : _} {O : _} {Q : _} : dInK K d neg (.str z) (.ref a) O Q = (a = d ∧ ∃ r, PySem.W.nsIn K d z = some r ∧ Q (.bl (if neg then !r.isSome else r.isSome)) O) := by first | rfl | (cases x <;> rfl)
theorem dIx_e1 {z : _} {i : _} {O : _} {Q : _} : dIx  (.str z) (.int i) O Q = (z.length ≤ sizeLine ∧ onSome (atI (tl z) i) fun c => Q (.str ⟨#[c]⟩) O) := by first | rfl | (cases x <;> rfl)
theorem dIx_e2 {x : _} {i : _} {O : _} {Q : _} : dIx  (.lst x) (.int i) O Q = (dIxQ (.lst x) i O Q) := by first | rfl | (cases x <;> rfl)
theorem dIx_e3 {x : _} {i : _} {O : _} {Q : _} : dIx  (.slst x) (.int i) O Q = (dIxQ (.slst x) i O Q) := by first | rfl | (cases x <;> rfl)
theorem dIx_e4 {x : _} {i : _} {O : _} {Q : _} : dIx  (.tup x) (.int i) O Q = (dIxQ (.tup x) i O Q) := by first | rfl | (cases x <;> rfl)
theorem dIx_e5 {x : _} {i : _} {O : _} {Q : _} : dIx  (.stup x) (.int i) O Q = (dIxQ (.stup x) i O Q) := by first | rfl | (cases x <;> rfl)
theorem dIx_e6 {x : _} {i : _} {O : _} {Q : _} : dIx  (.ref x) (.int i) O Q = (dIxQ (.ref x) i O Q) := by first | rfl | (cases x <;> rfl)
theorem kBl_e1 (Q : Bool → Own → Prop) {b : _} {O : _} : kBl Q (.bl b) O = (Q b O) := by first | rfl | (cases x <;> rfl)
theorem kInt_e1 (Q : Int → Own → Prop) {i : _} {O : _} : kInt Q (.int i) O = (Q i O) := by first | rfl | (cases x <;> rfl)
theorem kTru_e1 (Q : Bool → Own → Prop) {O1 : _} : kTru Q (.non) O1 = (Q false O1) := by first | rfl | (cases x <;> rfl)
theorem kTru_e2 (Q : Bool → Own → Prop) {b : _} {O1 : _} : kTru Q (.bl b) O1 = (Q b O1) := by first | rfl | (cases x <;> rfl)
theorem kTru_e3 (Q : Bool → Own → Prop) {i : _} {O1 : _} : kTru Q (.int i) O1 = (Q (i != 0) O1) := by first | rfl | (cases x <;> rfl)
theorem kTru_e4 (Q : Bool → Own → Prop) {y : _} {O1 : _} : kTru Q (.str y) O1 = (y.length ≤ sizeLine ∧ Q ((y.length : Int) != 0) O1) := by first | rfl | (cases x <;> rfl)
theorem kTru_e5 (Q : Bool → Own → Prop) {xs : _} {O1 : _} : kTru Q (.lst xs) O1 = (Q (!xs.isEmpty) O1) := by first | rfl | (cases x <;> rfl)
theorem kTru_e6 (Q : Bool → Own → Prop) {xs : _} {O1 : _} : kTru Q (.slst xs) O1 = (Q (!xs.isEmpty) O1) := by first | rfl | (cases x <;> rfl)
theorem kTru_e7 (Q : Bool → Own → Prop) {xs : _} {O1 : _} : kTru Q (.tup xs) O1 = (Q (!xs.isEmpty) O1) := by first | rfl | (cases x <;> rfl)
theorem kTru_e8 (Q : Bool → Own → Prop) {xs : _} {O1 : _} : kTru Q (.stup xs) O1 = (Q (!xs.isEmpty) O1) := by first | rfl | (cases x <;> rfl)
theorem kTru_e9 (Q : Bool → Own → Prop) {a : _} {O1 : _} : kTru Q (.ref a) O1 = (onL (O1 a) fun xs => Q (!xs.isEmpty) O1) := by first | rfl | (cases x <;> rfl)
theorem kRef_e1 (Q : Addr → Own → Prop) {a : _} {O : _} : kRef Q (.ref a) O = (Q a O) := by first | rfl | (cases x <;> rfl)
theorem kLst_e1 (Q : List DV → Own → Prop) {xs : _} {O' : _} : kLst Q (.lst xs) O' = (Q xs O') := by first | rfl | (cases x <;> rfl)
theorem kLst_e2 (Q : List DV → Own → Prop) {xs : _} {O' : _} : kLst Q (.slst xs) O' = (Q xs O') := by first | rfl | (cases x <;> rfl)
theorem kTup_e1 (Q : List DV → Own → Prop) {xs : _} {O' : _} : kTup Q (.tup xs) O' = (Q xs O') := by first | rfl | (cases x <;> rfl)
theorem kTup_e2 (Q : List DV → Own → Prop) {xs : _} {O' : _} : kTup Q (.stup xs) O' = (Q xs O') := by first | rfl | (cases x <;> rfl)
theorem kStr_e1 (Q : Str → Own → Prop) {x : _} {O' : _} : kStr Q (.str x) O' = (Q x O') := by first | rfl | (cases x <;> rfl)
theorem kRng1_e1 (Q : List DV → Own → Prop) {j : _} {O' : _} : kRng1 Q [.int j] O' = ((-(2 ^ 62) ≤ j ∧ j < 2 ^ 62) ∧ Q ((List.range j.toNat).map fun (k : Nat) => .int (k : Int)) O') := by first | rfl | (cases x <;> rfl)
theorem kRng2_e1 (Q : List DV → Own → Prop) {i : _} {j : _} {O' : _} : kRng2 Q [.int i, .int j] O' = ((-(2 ^ 62) ≤ i ∧ i < 2 ^ 62 ∧ -(2 ^ 62) ≤ j ∧ j < 2 ^ 62) ∧ Q ((List.range (j - i).toNat).map fun (k : Nat) => .int (i + (k : Int))) O') := by first | rfl | (cases x <;> rfl)
theorem kEnum_e1 (Q : List DV → Own → Prop) {xs : _} {O' : _} : kEnum Q [.lst xs] O' = (Q (enumD 0 xs) O') := by first | rfl | (cases x <;> rfl)
theorem kEnum_e2 (Q : List DV → Own → Prop) {xs : _} {O' : _} : kEnum Q [.slst xs] O' = (Q (enumD 0 xs) O') := by first | rfl | (cases x <;> rfl)
theorem kZip_e1 (Q : List DV → Own → Prop) {xs : _} {ys : _} {O' : _} : kZip Q [.lst xs, .lst ys] O' = (Q (zipD xs ys) O') := by first | rfl | (cases x <;> rfl)
theorem frzC_e1 {xs : _} {K : _} : frzC  (some (.lst xs)) K = (K (.lst xs)) := by first | rfl | (cases x <;> rfl)
theorem frzC_e2 {xs : _} {K : _} : frzC  (some (.dK xs)) K = (K (.dK xs)) := by first | rfl | (cases x <;> rfl)
theorem frzC_e3 {xs : _} {K : _} : frzC  (some (.dT xs)) K = (K (.dT xs)) := by first | rfl | (cases x <;> rfl)
theorem dSlR_e1 {z : _} {lo : _} {hi : _} {O : _} {Q : _} : dSlR  (.str z) lo hi O Q = (z.length ≤ sizeLine ∧ Q (.str (cutS z lo hi)) O) := by first | rfl | (cases x <;> rfl)
theorem dSlR_e2 {xs : _} {lo : _} {hi : _} {O : _} {Q : _} : dSlR  (.tup xs) lo hi O Q = (Q (.tup (cutD xs lo hi)) O) := by first | rfl | (cases x <;> rfl)
theorem dSlR_e3 {xs : _} {lo : _} {hi : _} {O : _} {Q : _} : dSlR  (.lst xs) lo hi O Q = (Q (.lst (cutD xs lo hi)) O) := by first | rfl | (cases x <;> rfl)
theorem dSlR_e4 {xs : _} {lo : _} {hi : _} {O : _} {Q : _} : dSlR  (.slst xs) lo hi O Q = (Q (.lst (cutD xs lo hi)) O) := by first | rfl | (cases x <;> rfl)
theorem dSlR_e5 {a : _} {lo : _} {hi : _} {O : _} {Q : _} : dSlR  (.ref a) lo hi O Q = (onL (O a) fun xs => Q (.lst (cutD xs lo hi)) O) := by first | rfl | (cases x <;> rfl)
theorem dLen_e1 {y : _} {O : _} {Q : _} : dLen  [.str y] O Q = (y.length ≤ sizeLine ∧ Q (.int y.length) O) := by first | rfl | (cases x <;> rfl)
theorem dLen_e2 {xs : _} {O : _} {Q : _} : dLen  [.lst xs] O Q = (Q (.int xs.length) O) := by first | rfl | (cases x <;> rfl)
theorem dLen_e3 {xs : _} {O : _} {Q : _} : dLen  [.slst xs] O Q = (Q (.int xs.length) O) := by first | rfl | (cases x <;> rfl)
theorem dLen_e4 {xs : _} {O : _} {Q : _} : dLen  [.tup xs] O Q = (Q (.int xs.length) O) := by first | rfl | (cases x <;> rfl)
theorem dLen_e5 {xs : _} {O : _} {Q : _} : dLen  [.stup xs] O Q = (Q (.int xs.length) O) := by first | rfl | (cases x <;> rfl)
theorem dLen_e6 {a : _} {O : _} {Q : _} : dLen  [.ref a] O Q = (onL (O a) fun xs => Q (.int xs.length) O) := by first | rfl | (cases x <;> rfl)
theorem dInt_e1 {i : _} {O : _} {Q : _} : dInt  [.int i] O Q = (Q (.int i) O) := by first | rfl | (cases x <;> rfl)
theorem dInt_e2 {k : _} {O : _} {Q : _} : dInt  [.bl k] O Q = (Q (.int (if k then 1 else 0)) O) := by first | rfl | (cases x <;> rfl)
theorem dInt_e3 {a : _} {O : _} {Q : _} : dInt  [.str a] O Q = (∃ n, PySem.intText? a = some n ∧ a.length ≤ 640 ∧ Q (.int n) O) := by first | rfl | (cases x <;> rfl)
theorem dStrI_e1 {i : _} {O : _} {Q : _} : dStrI  [.int i] O Q = (i.natAbs.log2 < 1920 ∧ Q (.str (toString i)) O) := by first | rfl | (cases x <;> rfl)
theorem dIsi_e1 {d : _} {b : _} {O : _} {Q : _} : dIsi  [d, .ty b] O Q = (onSome (tyName O d) fun a => b ∈ ["int", "str", "bool", "list", "tuple", "dict"] ∧ Q (.bl (subTy a b)) O) := by first | rfl | (cases x <;> rfl)
theorem tyName_e1 (O : Own) : tyName O (.non) = (some "NoneType") := by first | rfl | (cases x <;> rfl)
theorem tyName_e2 (O : Own) {u1 : _} : tyName O (.bl u1) = (some "bool") := by first | rfl | (cases x <;> rfl)
theorem tyName_e3 (O : Own) {u1 : _} : tyName O (.int u1) = (some "int") := by first | rfl | (cases x <;> rfl)
theorem tyName_e4 (O : Own) {u1 : _} : tyName O (.str u1) = (some "str") := by first | rfl | (cases x <;> rfl)
theorem tyName_e5 (O : Own) {u1 : _} : tyName O (.tup u1) = (some "tuple") := by first | rfl | (cases x <;> rfl)
theorem tyName_e6 (O : Own) {u1 : _} : tyName O (.stup u1) = (some "tuple") := by first | rfl | (cases x <;> rfl)
theorem tyName_e7 (O : Own) {u1 : _} : tyName O (.lst u1) = (some "list") := by first | rfl | (cases x <;> rfl)
theorem tyName_e8 (O : Own) {u1 : _} : tyName O (.slst u1) = (some "list") := by first | rfl | (cases x <;> rfl)
theorem tyName_e9 (O : Own) {u1 : _} : tyName O (.dK u1) = (some "dict") := by first | rfl | (cases x <;> rfl)
theorem tyName_e10 (O : Own) {a : _} : tyName O (.ref a) = (match O a with
    | some (.lst _) => some "list"
    | some (.dK _) => some "dict"
    | some (.dT _) => some "dict"
    | _ => none) := by first | rfl | (cases x <;> rfl)
theorem dApp_e1 {a : _} {y : _} {O : _} {Q : _} : dApp  (.ref a) [y] O Q = (onL (O a) fun xs => xs.length < sizeLine ∧ Q .non (oset O a (.lst (xs ++ [y])))) := by first | rfl | (cases x <;> rfl)
theorem dJoin_e1 {a : _} {d : _} {O : _} {Q : _} : dJoin  (.str a) [d] O Q = (seqQ O d fun xs => onSome (strsOf xs) fun ys => (ys.map (·.length)).sum + ys.length * a.length ≤ 16777216 ∧ Q (.str (Txt.join a ys)) O) := by first | rfl | (cases x <;> rfl)
theorem dSplit_e1 {a : _} {b : _} {O : _} {Q : _} : dSplit  (.str a) [.str b] O Q = ((b.length == 0) = false ∧ a.length + 2 ≤ sizeLine ∧ Q (.lst ((Txt.split a b).map DV.str)) O) := by first | rfl | (cases x <;> rfl)
theorem dgNil_e1 {S : _} {O : _} {Q : _} : dgNil  [] S O Q = (Q S O) := by first | rfl | (cases x <;> rfl)
theorem dgCons_e1 (g : DTG) (u : DTGs) {d : _} {r : _} {S : _} {O : _} {Q : _} : dgCons g u (d :: r) S O Q = (g d S O fun S' O' => u r S' O' Q) := by first | rfl | (cases x <;> rfl)
theorem dgTup_e1 (n : Nat) (t : DTGs) {ds : _} {S : _} {O : _} {Q : _} : dgTup n t (.tup ds) S O Q = (ds.length = n ∧ t ds S O Q) := by first | rfl | (cases x <;> rfl)
theorem dSetL_e1 {a : _} {k : _} {v : _} {O : _} {Q : _} : dSetL  (.ref a) (.int k) v O Q = (onL (O a) fun xs => onSome (ixN xs.length k) fun j => Q (oset O a (.lst (xs.set j v)))) := by first | rfl | (cases x <;> rfl)
theorem dSetD_e1 {a : _} {z : _} {v : _} {O : _} {Q : _} : dSetD  (.ref a) (.str z) v O Q = (onK (O a) fun es => es.length < 16000000 ∧ Q (oset O a (.dK (dput es (.inr z) v)))) := by first | rfl | (cases x <;> rfl)
theorem dSetD_e2 {a : _} {z : _} {v : _} {O : _} {Q : _} : dSetD  (.ref a) (.int z) v O Q = (onK (O a) fun es => es.length < 16000000 ∧ Q (oset O a (.dK (dput es (.inl z) v)))) := by first | rfl | (cases x <;> rfl)
theorem dSetD_e3 {a : _} {ds : _} {v : _} {O : _} {Q : _} : dSetD  (.ref a) (.tup ds) v O Q = (onT (O a) fun es => onSome (keysD ds) fun k => es.length < 16000000 ∧ Q (oset O a (.dT (dput es k v)))) := by first | rfl | (cases x <;> rfl)
theorem dIAdd_e1 {i : _} {j : _} {O : _} {Q : _} : dIAdd  (.int i) (.int j) O Q = (Q (.int (i + j)) O) := by first | rfl | (cases x <;> rfl)
theorem dIAdd_e2 {a : _} {b : _} {O : _} {Q : _} : dIAdd  (.str a) (.str b) O Q = (a.length + b.length ≤ sizeLine ∧ Q (.str (a ++ b)) O) := by first | rfl | (cases x <;> rfl)
theorem dISub_e1 {i : _} {j : _} {O : _} {Q : _} : dISub  (.int i) (.int j) O Q = (Q (.int (i - j)) O) := by first | rfl | (cases x <;> rfl)
theorem apart_e1 (a : Addr) {b : _} : apart a (.ref b) = (a ≠ b) := by first | rfl | (cases x <;> rfl)
theorem dUpd_e1 {a : _} {d : _} {O : _} {Q : _} : dUpd  (.ref a) [d] O Q = (onK (O a) fun es => dkQ O d fun em => apart a d ∧ es.length + em.length ≤ 1000000 ∧ Q .non (oset O a (.dK (dmerge es em)))) := by first | rfl | (cases x <;> rfl)
theorem dMulS_e1 {z : _} {n : _} {O : _} {Q : _} : dMulS  (.str z) (.int n) O Q = ((n < 1000000 ∧ -1000000 < n ∧ z.length < 8) ∧ Q (.str (repS z n)) O) := by first | rfl | (cases x <;> rfl)
theorem dInL_e1 (a : Addr) (xs : List Str) {z : _} {b : _} {O : _} {Q : _} : dInL a xs (.str z) (.ref b) O Q = (b = a ∧ Q (.bl (decide (z ∈ xs))) O) := by first | rfl | (cases x <;> rfl)
theorem endLc_e1 {Q : _} {acc : _} {O : _} : endLc  false Q acc O = (Q (.lst acc) O) := by first | rfl | (cases x <;> rfl)
theorem endLc_e2 {Q : _} {acc : _} {O : _} : endLc  true Q acc O = (∀ p, O p = none → Q (.ref p) (oset O p (.lst acc))) := by first | rfl | (cases x <;> rfl)
theorem bindN_e1 (is : List Nat) {ds : _} {S : _} : bindN is (.tup ds) S = (setAll S is ds) := by first | rfl | (cases x <;> rfl)
theorem setAll_e1 {S : _} : setAll  S [] [] = (some S) := by first | rfl | (cases x <;> rfl)
theorem setAll_e2 {S : _} {i : _} {is : _} {d : _} {ds : _} : setAll  S (i :: is) (d :: ds) = (setAll (S.set i (some d)) is ds) := by first | rfl | (cases x <;> rfl)
theorem mTy_e1 (O : Own) {u1 : _} : mTy O (.str u1) = (some "str") := by first | rfl | (cases x <;> rfl)
theorem mTy_e2 (O : Own) {u1 : _} : mTy O (.lst u1) = (some "list") := by first | rfl | (cases x <;> rfl)
theorem mTy_e3 (O : Own) {u1 : _} : mTy O (.slst u1) = (some "list") := by first | rfl | (cases x <;> rfl)
theorem mTy_e4 (O : Own) {a : _} : mTy O (.ref a) = (match O a with
    | some (.lst _) => some "list"
    | some (.dK _) => some "dict"
    | some (.dT _) => some "dict"
    | _ => none) := by first | rfl | (cases x <;> rfl)
theorem strsOf_e1 : strsOf  [] = (some []) := by first | rfl | (cases x <;> rfl)
theorem strsOf_e2 {x : _} {r : _} : strsOf  (.str x :: r) = (match strsOf r with
    | some ys => some (x :: ys)
    | none => none) := by first | rfl | (cases x <;> rfl)
theorem keyD_e1 {x : _} : keyD  (.str x) = (some (.inr x)) := by first | rfl | (cases x <;> rfl)
theorem keyD_e2 {i : _} : keyD  (.int i) = (some (.inl i)) := by first | rfl | (cases x <;> rfl)
theorem keysD_e1 : keysD  [] = (some []) := by first | rfl | (cases x <;> rfl)
theorem keysD_e2 {d : _} {r : _} : keysD  (d :: r) = (match keyD d, keysD r with
    | some k, some ks => some (k :: ks)
    | _, _ => none) := by first | rfl | (cases x <;> rfl)
theorem forW_e1 (g : DTG) (tb : DTS) (D : DEnds) {S : _} {O : _} : forW g tb D [] S O = (D.nx S O) := by first | rfl | (cases x <;> rfl)
theorem forW_e2 (g : DTG) (tb : DTS) (D : DEnds) {x : _} {r : _} {S : _} {O : _} : forW g tb D (x :: r) S O = (g x S O fun S2 O2 => tb { D with nx := forW g tb D r, ct := forW g tb D r, bk := D.nx } S2 O2) := by first | rfl | (cases x <;> rfl)
theorem lcW_e1 (ow : Bool) (b : DV → DSt → Option DSt) (tt : DTT) (te : DTE) (S : DSt) (Q : DVK) {acc : _} {O : _} : lcW ow b tt te S Q [] acc O = (endLc ow Q acc O) := by first | rfl | (cases x <;> rfl)
theorem lcW_e2 (ow : Bool) (b : DV → DSt → Option DSt) (tt : DTT) (te : DTE) (S : DSt) (Q : DVK) {x : _} {r : _} {acc : _} {O : _} : lcW ow b tt te S Q (x :: r) acc O = (onSome (b x S) fun S2 => tt S2 O fun c O2 => if c = true then te S2 O2 fun y O3 => acc.length < 16000000 ∧ lcW ow b tt te S Q r (acc ++ [y]) O3 else lcW ow b tt te S Q r acc O2) := by first | rfl | (cases x <;> rfl)
theorem lcG_e1 (b : DV → DSt → Option DSt) (tt : DTT) (te : DTE) (S : DSt) (R : List DV → Own → Prop) {acc : _} {O : _} : lcG b tt te S R [] acc O = (R acc O) := by first | rfl | (cases x <;> rfl)
theorem lcG_e2 (b : DV → DSt → Option DSt) (tt : DTT) (te : DTE) (S : DSt) (R : List DV → Own → Prop) {x : _} {r : _} {acc : _} {O : _} : lcG b tt te S R (x :: r) acc O = (onSome (b x S) fun S2 => tt S2 O fun c O2 => if c = true then te S2 O2 fun y O3 => acc.length < 16000000 ∧ lcG b tt te S R r (acc ++ [y]) O3 else lcG b tt te S R r acc O2) := by first | rfl | (cases x <;> rfl)
theorem lc2W_e1 (ow : Bool) (b : DV → DSt → Option DSt) (tt : DTT) (di1 : DTI) (b1 : DV → DSt → Option DSt) (tt1 : DTT) (te : DTE) (vs1 : List Nat) (S : DSt) (Q : DVK) {acc : _} {O : _} : lc2W ow b tt di1 b1 tt1 te vs1 S Q [] acc O = (endLc ow Q acc O) := by first | rfl | (cases x <;> rfl)
theorem lc2W_e2 (ow : Bool) (b : DV → DSt → Option DSt) (tt : DTT) (di1 : DTI) (b1 : DV → DSt → Option DSt) (tt1 : DTT) (te : DTE) (vs1 : List Nat) (S : DSt) (Q : DVK) {x : _} {r : _} {acc : _} {O : _} : lc2W ow b tt di1 b1 tt1 te vs1 S Q (x :: r) acc O = (onSome (b x S) fun S2 => tt S2 O fun c O2 => if c = true then di1 S2 O2 fun ds1 O3 => lcG b1 tt1 te (dwipe S2 vs1) (lc2W ow b tt di1 b1 tt1 te vs1 S Q r) ds1 acc O3 else lc2W ow b tt di1 b1 tt1 te vs1 S Q r acc O2) := by first | rfl | (cases x <;> rfl)
theorem dPairs_e1 {u1 : _} {O : _} {Q : _} : dPairs  [] u1 O Q = (Q [] O) := by first | rfl | (cases x <;> rfl)
theorem dPairs_e2 {tk : _} {tv : _} {r : _} {S : _} {O : _} {Q : _} : dPairs  ((tk, tv) :: r) S O Q = (tk S O fun x O1 => tv S O1 fun y O2 => dPairs r S O2 fun ps O3 => Q ((x, y) :: ps) O3) := by first | rfl | (cases x <;> rfl)
theorem kvsOf_e1 : kvsOf  [] = (some []) := by first | rfl | (cases x <;> rfl)
theorem kvsOf_e2 {k : _} {v : _} {r : _} : kvsOf  ((k, v) :: r) = (match keyD k, kvsOf r with
    | some k', some r' => some ((k', v) :: r')
    | _, _ => none) := by first | rfl | (cases x <;> rfl)
theorem slot_e1 {x : _} {u1 : _} : slot  (x :: u1) 0 = (x) := by first | rfl | (cases x <;> rfl)
theorem slot_e2 {u1 : _} {r : _} {n : _} : slot  (u1 :: r) (n + 1) = (slot r n) := by first | rfl | (cases x <;> rfl)
theorem dwipe_e1 (S : DSt) : dwipe S [] = (S) := by first | rfl | (cases x <;> rfl)
theorem dwipe_e2 (S : DSt) {v : _} {vs : _} : dwipe S (v :: vs) = ((dwipe S vs).set v none) := by first | rfl | (cases x <;> rfl)
theorem enumD_e1 {u1 : _} : enumD  u1 [] = ([]) := by first | rfl | (cases x <;> rfl)
theorem enumD_e2 {n : _} {x : _} {r : _} : enumD  n (x :: r) = (.tup [.int (n : Int), x] :: enumD (n + 1) r) := by first | rfl | (cases x <;> rfl)
theorem zipD_e1 {x : _} {r : _} {y : _} {q : _} : zipD  (x :: r) (y :: q) = (.tup [x, y] :: zipD r q) := by first | rfl | (cases x <;> rfl)
theorem dstart_e1 {u1 : _} : dstart  0 u1 = ([]) := by first | rfl | (cases x <;> rfl)
theorem dstart_e2 {n : _} : dstart  (n + 1) [] = (none :: dstart n []) := by first | rfl | (cases x <;> rfl)
theorem dstart_e3 {n : _} {d : _} {ds : _} : dstart  (n + 1) (d :: ds) = (some d :: dstart n ds) := by first | rfl | (cases x <;> rfl)
theorem flatD_e1 : flatD  (.non) = (true) := by first | rfl | (cases x <;> rfl)
theorem flatD_e2 {u1 : _} : flatD  (.bl u1) = (true) := by first | rfl | (cases x <;> rfl)
theorem flatD_e3 {u1 : _} : flatD  (.int u1) = (true) := by first | rfl | (cases x <;> rfl)
theorem flatD_e4 {u1 : _} : flatD  (.str u1) = (true) := by first | rfl | (cases x <;> rfl)
theorem eqF_e1 : eqF  (.non) (.non) = (true) := by first | rfl | (cases x <;> rfl)
theorem eqF_e2 {a : _} {b : _} : eqF  (.bl a) (.bl b) = (a == b) := by first | rfl | (cases x <;> rfl)
theorem eqF_e3 {a : _} {b : _} : eqF  (.bl a) (.int b) = ((if a then 1 else 0) == b) := by first | rfl | (cases x <;> rfl)
theorem eqF_e4 {a : _} {b : _} : eqF  (.int a) (.bl b) = (a == (if b then 1 else 0)) := by first | rfl | (cases x <;> rfl)
theorem eqF_e5 {a : _} {b : _} : eqF  (.int a) (.int b) = (a == b) := by first | rfl | (cases x <;> rfl)
theorem eqF_e6 {a : _} {b : _} : eqF  (.str a) (.str b) = (a == b) := by first | rfl | (cases x <;> rfl)
end DL

set_option Elab.async false
set_option linter.all false
set_option maxRecDepth 100000
namespace W1
open PySem PySem.Spec PyProof.Rows L2 TL DL
/-! ### words of a row, as lists of signs -/
abbrev letters : List Nat := tl "abcdefghijklmnopqrstuvwxyz"
abbrev figs : List Nat := tl "0123456789"
abbrev ownW : List Str := ["use", "const", "keep", "out", "def", "num", "yes", "no", "let", "if", "else", "while", "end", "give", "say", "do", "or", "and", "not", "mod"]
abbrev signsW : List Str := ["<>", "<=", "(", ")", ",", ".", "=", "<", "+", "-", "*", "/"]
def spanIn (g r : List Nat) : List Nat := r.takeWhile (fun c => decide (c ∈ g))
def wordL (r : List Nat) : Str × List Nat := match r with
  | [] => ("", [])
  | c :: _ => if c ∈ letters then (if ofL (spanIn letters r) ∈ ownW then "own" else if (spanIn letters r).length ≤ 6 then "name" else "", spanIn letters r)
    else if c ∈ figs then (if (spanIn figs r).length ≤ 6 ∧ (spanIn figs r = [48] ∨ c ≠ 48) then "num" else "", spanIn figs r)
    else match signsW.find? (fun s => decide (r.take (tl s).length = tl s)) with
      | some s => ("sign", tl s)
      | none => ("", [c])
theorem spanIn_app {g w t : List Nat} (hw : ∀ c ∈ w, c ∈ g) (ht : ∀ c, t.head? = some c → c ∉ g) : spanIn g (w ++ t) = w := by
  unfold spanIn
  induction w with
  | nil =>
    cases t with
    | nil => rfl
    | cons c t => rw [List.nil_append, List.takeWhile_cons, if_neg (by simpa using ht c rfl)]
  | cons c w ih =>
    rw [List.cons_append, List.takeWhile_cons, if_pos (by simpa using hw c List.mem_cons_self), ih (fun d hd => hw d (List.mem_cons_of_mem _ hd))]
theorem span_step {g l : List Nat} {e : Nat} {c : Nat} (h : l[e]? = some c) : spanIn g (l.drop e) = if c ∈ g then c :: spanIn g (l.drop (e + 1)) else [] := by
  have hl : e < l.length := (List.getElem?_eq_some_iff.mp h).1
  have he : l[e] = c := by
    have := List.getElem?_eq_getElem hl
    rw [this] at h; exact Option.some.inj h
  rw [List.drop_eq_getElem_cons hl, he]
  unfold spanIn
  rw [List.takeWhile_cons]
  by_cases q : c ∈ g <;> simp [q]
theorem span_end {g l : List Nat} {e : Nat} (h : l.length ≤ e) : spanIn g (l.drop e) = [] := by
  rw [List.drop_eq_nil_of_le h]; rfl
/-- the loop's state: from a on all are in g, up to e -/
theorem span_take {g l : List Nat} {a e : Nat} (h1 : a ≤ e) (h2 : e ≤ l.length) (h3 : ∀ c ∈ (l.drop a).take (e - a), c ∈ g) (h4 : ∀ c, l[e]? = some c → c ∉ g) : spanIn g (l.drop a) = (l.drop a).take (e - a) := by
  have e1 : l.drop a = (l.drop a).take (e - a) ++ l.drop e := by
    have := List.take_append_drop (e - a) (l.drop a)
    rw [List.drop_drop, show a + (e - a) = e by omega] at this
    exact this.symm
  conv => lhs; rw [e1]
  refine spanIn_app h3 fun c hc => h4 c ?_
  rw [List.head?_drop] at hc
  exact hc
end W1
namespace W1
open PySem PySem.Spec PyProof.Rows L2 TL DL
theorem span_ne {g r : List Nat} {c : Nat} (h : r.head? = some c) (hc : c ∈ g) : ∃ t, spanIn g r = c :: t := by
  cases r with
  | nil => cases h
  | cons d r =>
    cases h
    unfold spanIn
    exact ⟨_, by rw [List.takeWhile_cons, if_pos (by simpa using hc)]⟩
theorem wordL_let {r : List Nat} {c : Nat} (h : r.head? = some c) (hc : c ∈ letters) : wordL r = ((if ofL (spanIn letters r) ∈ ownW then "own" else if (spanIn letters r).length ≤ 6 then "name" else "", spanIn letters r) : Str × List Nat) := by
  cases r with
  | nil => cases h
  | cons d r => cases h; simp only [wordL, if_pos hc]
theorem wordL_fig {r : List Nat} {c : Nat} (h : r.head? = some c) (hc : c ∉ letters) (hf : c ∈ figs) : wordL r = ((if (spanIn figs r).length ≤ 6 ∧ (spanIn figs r = [48] ∨ c ≠ 48) then "num" else "", spanIn figs r) : Str × List Nat) := by
  cases r with
  | nil => cases h
  | cons d r => cases h; simp only [wordL, if_neg hc, if_pos hf]
theorem wordL_sign {r : List Nat} {c : Nat} {s : Str} (h : r.head? = some c) (hc : c ∉ letters) (hf : c ∉ figs) (hs : signsW.find? (fun s => decide (r.take (tl s).length = tl s)) = some s) : wordL r = (("sign", tl s) : Str × List Nat) := by
  cases r with
  | nil => cases h
  | cons d r => cases h; simp only [wordL, if_neg hc, if_neg hf, hs]
theorem wordL_none {r : List Nat} {c : Nat} (h : r.head? = some c) (hc : c ∉ letters) (hf : c ∉ figs) (hs : signsW.find? (fun s => decide (r.take (tl s).length = tl s)) = none) : wordL r = (("", [c]) : Str × List Nat) := by
  cases r with
  | nil => cases h
  | cons d r => cases h; simp only [wordL, if_neg hc, if_neg hf, hs]
theorem span_len (g r : List Nat) : (spanIn g r).length ≤ r.length := by
  induction r with
  | nil => simp [spanIn]
  | cons c r ih =>
    unfold spanIn at *
    rw [List.takeWhile_cons]
    split
    · simpa using ih
    · simp
theorem wordL_own {r : List Nat} {c : Nat} (h : r.head? = some c) (hc : c ∈ letters) (q : ofL (spanIn letters r) ∈ ownW) : wordL r = (("own", spanIn letters r) : Str × List Nat) := by
  rw [wordL_let h hc, if_pos q]
theorem wordL_name {r : List Nat} {c : Nat} (h : r.head? = some c) (hc : c ∈ letters) (q : ofL (spanIn letters r) ∉ ownW) (q2 : (spanIn letters r).length ≤ 6) : wordL r = (("name", spanIn letters r) : Str × List Nat) := by
  rw [wordL_let h hc, if_neg q, if_pos q2]
theorem wordL_long {r : List Nat} {c : Nat} (h : r.head? = some c) (hc : c ∈ letters) (q : ofL (spanIn letters r) ∉ ownW) (q2 : ¬ (spanIn letters r).length ≤ 6) : wordL r = (("", spanIn letters r) : Str × List Nat) := by
  rw [wordL_let h hc, if_neg q, if_neg q2]
theorem wordL_num {r : List Nat} {c : Nat} (h : r.head? = some c) (hc : c ∉ letters) (hf : c ∈ figs) (q : (spanIn figs r).length ≤ 6) (q2 : spanIn figs r = [48] ∨ c ≠ 48) : wordL r = (("num", spanIn figs r) : Str × List Nat) := by
  rw [wordL_fig h hc hf, if_pos ⟨q, q2⟩]
theorem wordL_nonum {r : List Nat} {c : Nat} (h : r.head? = some c) (hc : c ∉ letters) (hf : c ∈ figs) (q : ¬ ((spanIn figs r).length ≤ 6 ∧ (spanIn figs r = [48] ∨ c ≠ 48))) : wordL r = (("", spanIn figs r) : Str × List Nat) := by
  rw [wordL_fig h hc hf, if_neg q]
/-- a slice of a text against a written sign -/
theorem cut_eq {z x : Str} {a : Nat} : cutS z (some (a : Int)) (some ((a : Int) + ((tl x).length : Int))) = x ↔ ((tl z).drop a).take (tl x).length = tl x := by
  rw [cut_int (Int.natCast_nonneg _) (by omega), str_ext, tl_ofL]
  have e1 : ((a : Int)).toNat = a := rfl
  have e2 : ((a : Int) + ((tl x).length : Int)).toNat - (a : Int).toNat = (tl x).length := by omega
  rw [e2, e1]
def chainQ (r : List Nat) (P : Str → Prop) (N : Prop) : List Str → Prop
  | [] => N
  | s :: ss => (tl s).length ≤ sizeLine ∧ if r.take (tl s).length = tl s then P s else chainQ r P N ss
theorem chain_ok {r : List Nat} {P : Str → Prop} {N : Prop} : ∀ {ss : List Str}, (∀ s ∈ ss, (tl s).length ≤ 10) → (∀ s, ss.find? (fun s => decide (r.take (tl s).length = tl s)) = some s → P s) → (ss.find? (fun s => decide (r.take (tl s).length = tl s)) = none → N) → chainQ r P N ss
  | [], _, _, hn => hn rfl
  | s :: ss, hl, hs, hn => by
    refine ⟨line_of (by have := hl s List.mem_cons_self; omega), ite_c (fun q => hs s (by rw [List.find?_cons_of_pos (by simpa using q)])) (fun q => ?_)⟩
    refine chain_ok (fun s h => hl s (List.mem_cons_of_mem _ h)) (fun s' h => hs s' ?_) (fun h => hn ?_)
    · rw [List.find?_cons_of_neg (by simpa using q)]; exact h
    · rw [List.find?_cons_of_neg (by simpa using q)]; exact h
theorem signs_short : ∀ s ∈ signsW, (tl s).length ≤ 10 := by decide +kernel
end W1
namespace W1
open PySem PySem.Spec PyProof.Rows L2 TL DL
abbrev Wd := Str × List Nat × Nat
inductive Scan : List Nat → Nat → List Wd → Prop
  | nil (e : Nat) : Scan [] e []
  | rem (r : List Nat) (e : Nat) : Scan (35 :: r) e []
  | blank {r : List Nat} {e : Nat} {ws : List Wd} : Scan r (e + 1) ws → Scan (32 :: r) e ws
  | word {c : Nat} {r : List Nat} {e : Nat} {k : Str} {w : List Nat} {ws : List Wd} : c ≠ 35 → c ≠ 32 → wordL (c :: r) = (k, w) → k ≠ "" → Scan ((c :: r).drop w.length) (e + w.length) ws → Scan (c :: r) e ((k, w, e) :: ws)
def encW (n : Int) : Wd → DV := fun x => .tup [.str x.1, .str (ofL x.2.1), .tup [.int n, .int ((x.2.2 : Int) + 1)]]
theorem find_pre {r : List Nat} {s : Str} (h : signsW.find? (fun s => decide (r.take (tl s).length = tl s)) = some s) : s ∈ signsW ∧ r.take (tl s).length = tl s :=
  ⟨List.mem_of_find?_eq_some h, by simpa using List.find?_some h⟩
theorem signs_ne : ∀ s ∈ signsW, 1 ≤ (tl s).length := by decide +kernel
theorem wordL_bounds {c : Nat} {r : List Nat} : 1 ≤ (wordL (c :: r)).2.length ∧ (wordL (c :: r)).2.length ≤ (c :: r).length := by
  by_cases hc : c ∈ letters
  · rw [wordL_let rfl hc]
    obtain ⟨t, et⟩ := span_ne (g := letters) (r := c :: r) rfl hc
    exact ⟨by show 1 ≤ (spanIn letters (c :: r)).length; rw [et]; simp, span_len _ _⟩
  · by_cases hf : c ∈ figs
    · rw [wordL_fig rfl hc hf]
      obtain ⟨t, et⟩ := span_ne (g := figs) (r := c :: r) rfl hf
      exact ⟨by show 1 ≤ (spanIn figs (c :: r)).length; rw [et]; simp, span_len _ _⟩
    · cases hs : signsW.find? (fun s => decide ((c :: r).take (tl s).length = tl s)) with
      | none => rw [wordL_none rfl hc hf hs]; simp
      | some s =>
        rw [wordL_sign rfl hc hf hs]
        obtain ⟨h1, h2⟩ := find_pre hs
        refine ⟨signs_ne s h1, ?_⟩
        have := congrArg List.length h2
        rw [List.length_take] at this
        show (tl s).length ≤ _
        omega
end W1
namespace W1
open PySem PySem.Spec PyProof.Rows L2 TL DL
theorem one_hash {c : Nat} : ((⟨#[c]⟩ : Str) = Str.ofString "#") ↔ c = 35 := ⟨fun h => by have := congrArg tl h; exact (List.cons.inj this).1, fun h => by subst h; decide +kernel⟩
theorem one_blank {c : Nat} : ((⟨#[c]⟩ : Str) = Str.ofString " ") ↔ c = 32 := ⟨fun h => by have := congrArg tl h; exact (List.cons.inj this).1, fun h => by subst h; decide +kernel⟩
theorem scan_cons {c : Nat} {r : List Nat} {e : Nat} {ws : List Wd} (h : Scan (c :: r) e ws) (h1 : c ≠ 35) (h2 : c ≠ 32) : ∃ k w ws', wordL (c :: r) = (k, w) ∧ k ≠ "" ∧ ws = (k, w, e) :: ws' ∧ Scan ((c :: r).drop w.length) (e + w.length) ws' := by
  cases h with
  | rem => exact absurd rfl h1
  | blank => exact absurd rfl h2
  | word _ _ h3 h4 h5 => exact ⟨_, _, _, h3, h4, rfl, h5⟩
theorem scan_hash {r : List Nat} {e : Nat} {ws : List Wd} (h : Scan (35 :: r) e ws) : ws = [] := by
  cases h with
  | rem => rfl
  | word h => exact absurd rfl h
theorem scan_blank {r : List Nat} {e : Nat} {ws : List Wd} (h : Scan (32 :: r) e ws) : Scan r (e + 1) ws := by
  cases h with
  | blank h => exact h
  | word _ h => exact absurd rfl h
theorem scan_nil {e : Nat} {ws : List Wd} (h : Scan [] e ws) : ws = [] := by cases h; rfl
end W1
namespace W1
open PySem PySem.Spec PyProof.Rows L2 TL DL
/-- the rows of a text, each with its words -/
def ScanRows : List Str → List (List Wd) → Prop
  | [], [] => True
  | r :: rs, ws :: wss => Scan (tl r) 0 ws ∧ ScanRows rs wss
  | _, _ => False
def encRows : Nat → List (List Wd) → List DV
  | _, [] => []
  | n, ws :: wss => .lst (ws.map (encW ((n : Int) + 1))) :: encRows (n + 1) wss
def encAll : Nat → List (List Wd) → List DV
  | _, [] => []
  | n, ws :: wss => ws.map (encW ((n : Int) + 1)) ++ encAll (n + 1) wss
theorem encRows_get : ∀ {wss : List (List Wd)} {n i : Nat} {y : DV}, (encRows n wss)[i]? = some y → ∃ ws, wss[i]? = some ws ∧ y = .lst (ws.map (encW ((n : Int) + (i : Int) + 1)))
  | [], _, _, _, h => by simp [encRows] at h
  | ws :: wss, n, 0, y, h => by
    simp [encRows] at h
    exact ⟨ws, rfl, by rw [← h]; simp⟩
  | ws :: wss, n, i + 1, y, h => by
    simp only [encRows, List.getElem?_cons_succ] at h
    obtain ⟨ws', h1, h2⟩ := encRows_get h
    refine ⟨ws', by simpa using h1, ?_⟩
    rw [h2]
    have : ((n + 1 : Nat) : Int) + (i : Int) + 1 = (n : Int) + ((i + 1 : Nat) : Int) + 1 := by omega
    rw [this]
theorem encRows_len : ∀ {wss : List (List Wd)} {n : Nat}, (encRows n wss).length = wss.length
  | [], _ => rfl
  | _ :: wss, n => by simp [encRows, encRows_len (wss := wss)]
theorem scanRows_len : ∀ {rs : List Str} {wss : List (List Wd)}, ScanRows rs wss → rs.length = wss.length
  | [], [], _ => rfl
  | _ :: rs, _ :: wss, h => by simp [scanRows_len h.2]
  | [], _ :: _, h => h.elim
  | _ :: _, [], h => h.elim
theorem scanRows_get : ∀ {rs : List Str} {wss : List (List Wd)} {i : Nat} {r : Str} {ws : List Wd}, ScanRows rs wss → rs[i]? = some r → wss[i]? = some ws → Scan (tl r) 0 ws
  | r :: rs, ws :: wss, 0, _, _, h, h1, h2 => by simp at h1 h2; subst h1; subst h2; exact h.1
  | r :: rs, ws :: wss, i + 1, _, _, h, h1, h2 => scanRows_get h.2 (by simpa using h1) (by simpa using h2)
  | [], [], _, _, _, _, h1, _ => by simp at h1
  | [], _ :: _, _, _, _, h, _, _ => h.elim
  | _ :: _, [], _, _, _, h, _, _ => h.elim
theorem scan_len {r : List Nat} {e : Nat} {ws : List Wd} (h : Scan r e ws) : ws.length ≤ r.length := by
  induction h with
  | nil => simp
  | rem => simp
  | blank _ ih => simp; omega
  | @word c r e k w ws h1 h2 h3 h4 h5 ih =>
    have hb := wordL_bounds (c := c) (r := r)
    rw [h3] at hb
    dsimp only at hb
    rw [List.length_drop] at ih
    simp only [List.length_cons] at *
    omega
end W1

set_option Elab.async false
set_option linter.all false
set_option maxRecDepth 100000
/-! LawMath: what the laws' own drawing has in common. -/
namespace W1
open PySem PySem.Spec PyProof.Rows L2 TL DL
/-- the dice: a list of the script, a place, what is mixed, what is left -/
def Dice (c : Cell) : Prop := ∃ (ns : List Int) (p m k : Int), c = .lst [.slst (ns.map DV.int), .int p, .int m, .int k] ∧ 0 ≤ p ∧ 0 ≤ m ∧ m < 2147483647 ∧ 0 ≤ k ∧ ns.length ≤ 63
/-- data of a depth -/
inductive Pure : Nat → DV → Prop
  | non {n} : Pure n .non
  | bl {n} (b) : Pure n (.bl b)
  | int {n} (i) : Pure n (.int i)
  | str {n} (x) : Pure n (.str x)
  | tup {n} {xs : List DV} : (∀ x ∈ xs, Pure n x) → xs.length ≤ 1000000 → Pure (n + 1) (.tup xs)
  | lst {n} {xs : List DV} : (∀ x ∈ xs, Pure n x) → xs.length ≤ 1000000 → Pure (n + 1) (.lst xs)
/-- what stands there to be read -/
def Sees (O : Own) (d v : DV) : Prop := d = v ∨ ∃ a xs, d = .ref a ∧ O a = some (.lst xs) ∧ v = .lst xs
end W1
namespace W1
open PySem PySem.Spec PyProof.Rows L2 TL DL
theorem mem_tuple : ("tuple" ∈ ["int", "str", "bool", "list", "tuple", "dict"]) = True := by decide
theorem mem_list : ("list" ∈ ["int", "str", "bool", "list", "tuple", "dict"]) = True := by decide
theorem mem_int : ("int" ∈ ["int", "str", "bool", "list", "tuple", "dict"]) = True := by decide
theorem mem_bool : ("bool" ∈ ["int", "str", "bool", "list", "tuple", "dict"]) = True := by decide
theorem mem_str : ("str" ∈ ["int", "str", "bool", "list", "tuple", "dict"]) = True := by decide
theorem dIsi_to {O : Own} {d : DV} {b a : String} {Q : DVK} (h : tyName O d = some a) (hb : b ∈ ["int", "str", "bool", "list", "tuple", "dict"]) (hq : Q (.bl (subTy a b)) O) : dIsi [d, .ty b] O Q := by
  unfold dIsi
  exact onSome_of h ⟨hb, hq⟩
theorem seq_len {O : Own} {d : DV} {xs : List DV} {Q : DVK} (h : seqOf O d = some xs) (hq : Q (.int xs.length) O) : dLen [d] O Q := by
  unfold seqOf at h
  split at h <;> try (cases h; first | done | exact hq)
  rename_i a
  show onL (O a) _
  cases e : O a with
  | none => rw [e] at h; cases h
  | some c =>
    rw [e] at h
    cases c with
    | lst ys => cases h; exact hq
    | _ => cases h
theorem seq_q {O : Own} {d : DV} {xs : List DV} {K : List DV → Prop} (h : seqOf O d = some xs) (hq : K xs) : seqQ O d K := by
  unfold seqOf at h
  split at h <;> try (cases h; first | done | exact hq)
  rename_i a
  show onL (O a) _
  cases e : O a with
  | none => rw [e] at h; cases h
  | some c =>
    rw [e] at h
    cases c with
    | lst ys => cases h; exact hq
    | _ => cases h
theorem seq_ix {O : Own} {d x : DV} {xs : List DV} {i : Int} {Q : DVK} (h : seqOf O d = some xs) (hx : atI xs i = some x) (hq : Q x O) : dIx d (.int i) O Q := by
  have k : seqQ O d fun xs => onSome (atI xs i) fun d => Q d O := seq_q h (onSome_of hx hq)
  unfold seqOf at h
  split at h <;> first | (cases h; done) | exact k
theorem lcW_skip {ow : Bool} {b : DV → DSt → Option DSt} {tt : DTT} {te : DTE} {S : DSt} {Q : DVK} {O : Own} : ∀ (xs acc : List DV),
    (∀ x ∈ xs, ∀ K : Bool → Own → Prop, K false O → onSome (b x S) fun S2 => tt S2 O K) → endLc ow Q acc O → lcW ow b tt te S Q xs acc O
  | [], acc, _, h => h
  | x :: xs, acc, hs, h => by
    unfold lcW
    have h0 := hs x List.mem_cons_self
    obtain ⟨S2, e, _⟩ := onSome_ex (h0 (fun _ _ => True) trivial)
    have h1 := fun K hK => onSome_ex (h0 K hK)
    refine onSome_of e ?_
    have h2 : ∀ K : Bool → Own → Prop, K false O → tt S2 O K := fun K hK => by
      obtain ⟨S3, e3, h3⟩ := h1 K hK
      rw [e] at e3; cases e3; exact h3
    exact h2 _ (ite_f (by decide) (lcW_skip xs acc (fun x hx => hs x (List.mem_cons_of_mem _ hx)) h))
end W1
namespace W1
open PySem PySem.Spec PyProof.Rows L2 TL DL
theorem Sees.seq {O : Own} {d : DV} {xs : List DV} : (Sees O d (.lst xs) → seqOf O d = some xs ∧ tyName O d = some "list") ∧ (Sees O d (.tup xs) → seqOf O d = some xs ∧ tyName O d = some "tuple") := by
  refine ⟨?_, ?_⟩
  · rintro (rfl | ⟨a, ys, rfl, h, e⟩)
    · exact ⟨rfl, rfl⟩
    · cases e
      refine ⟨?_, ?_⟩
      · show (match O a with | some (.lst xs) => some xs | _ => none) = _
        rw [h]
      · show (match O a with | some (.lst _) => some "list" | some (.dK _) => some "dict" | some (.dT _) => some "dict" | _ => none) = _
        rw [h]
  · rintro (rfl | ⟨a, ys, rfl, h, e⟩)
    · exact ⟨rfl, rfl⟩
    · cases e
theorem Sees.flat {O : Own} {d v : DV} (h : Sees O d v) (hv : ∀ xs, v ≠ .lst xs) : d = v := by
  rcases h with h | ⟨a, ys, rfl, h, e⟩
  · exact h
  · exact absurd e (hv _)
/-- the comprehension of _law_like over what is alike -/
theorem like_all {b : DV → DSt → Option DSt} {tt : DTT} {S : DSt} {Q : DVK} {O : Own} {te : DTE} {m : Nat}
    (h : ∀ k : Nat, k < m → ∀ K : Bool → Own → Prop, K false O → onSome (b (.int k) S) fun S2 => tt S2 O K) (hq : Q (.lst []) O) :
    lcW false b tt te S Q ((List.range m).map fun k : Nat => DV.int k) [] O := by
  refine lcW_skip _ _ (fun x hx K hK => ?_) hq
  obtain ⟨k, hk, rfl⟩ := List.mem_map.mp hx
  exact h k (List.mem_range.mp hk) K hK
end W1
namespace W1
open PySem PySem.Spec PyProof.Rows L2 TL DL
/-- a drawn name -/
def IsName (w : Str) : Prop := ∃ (c : Nat) (l : List Nat), tl w = c :: l ∧ c ∈ tl (Str.ofString "bfhjpqrtvxz") ∧ (∀ x ∈ l, x ∈ tl (Str.ofString "abdefilmnostuwy")) ∧ l.length ≤ 2
def WK (rl : Addr) (row last : Str) : List (Key × DV) := [(.inr "rows", .ref rl), (.inr "row", .str row), (.inr "last", .str last)]
def WCell (rl : Addr) (row last : Str) : Cell := .dK (WK rl row last)
theorem wk_rows {rl : Addr} {row last : Str} : dget (WK rl row last) (.inr "rows") = some (.ref rl) := rfl
theorem wk_row {rl : Addr} {row last : Str} : dget (WK rl row last) (.inr "row") = some (.str row) := rfl
theorem wk_last {rl : Addr} {row last : Str} : dget (WK rl row last) (.inr "last") = some (.str last) := rfl
theorem wk_upd {rl : Addr} {row last a b : Str} : dmerge (WK rl row last) (dmerge [] [(.inr "row", .str a), (.inr "last", .str b)]) = WK rl a b := rfl
theorem wk_len {rl : Addr} {row last : Str} : (WK rl row last).length = 3 := rfl
theorem wk_len2 {a b : DV} : (dmerge [] [(.inr "row", a), (.inr "last", b)] : List (Key × DV)).length = 2 := rfl
theorem dEqP_nil0 {O : Own} {Q : DVK} : dEqP true (.lst []) (.lst []) O Q = Q (.bl false) O := by simp only [dEqP, toPy, toPys, onSome_e1]; exact propext ⟨fun h => h.2.2, fun h => ⟨rfl, rfl, h⟩⟩
theorem dEqP_nil1 {O : Own} {Q : DVK} {i : Int} : dEqP true (.lst [.int i]) (.lst []) O Q = Q (.bl true) O := by simp only [dEqP, toPy, toPys, onSome_e1]; exact propext ⟨fun h => h.2.2, fun h => ⟨rfl, rfl, h⟩⟩
theorem dEqP_nil2 {O : Own} {Q : DVK} {i j : Int} : dEqP true (.lst [.int i, .int j]) (.lst []) O Q = Q (.bl true) O := by simp only [dEqP, toPy, toPys, onSome_e1]; exact propext ⟨fun h => h.2.2, fun h => ⟨rfl, rfl, h⟩⟩
theorem len_lt16 {α : Type} {l : List α} (h : l.length ≤ 100) : l.length < 16000000 := by omega
theorem dSeq_mid {t u : DTS} {D : DEnds} {S : DSt} {O : Own} (Mid : DSt → Own → Prop) (h1 : ∀ R : DSt → Own → Prop, (∀ S' O', Mid S' O' → R S' O') → t { D with nx := R } S O) (h2 : ∀ S' O', Mid S' O' → u D S' O') : dSeq t u D S O := h1 _ h2
theorem dSeq_mid2 {t t2 u : DTS} {D : DEnds} {S : DSt} {O : Own} (Mid : DSt → Own → Prop) (h1 : ∀ R : DSt → Own → Prop, (∀ S' O', Mid S' O' → R S' O') → dSeq t t2 { D with nx := R } S O) (h2 : ∀ S' O', Mid S' O' → u D S' O') : dSeq t (dSeq t2 u) D S O := h1 _ h2
theorem dSeq_mid3 {t t2 t3 u : DTS} {D : DEnds} {S : DSt} {O : Own} (Mid : DSt → Own → Prop) (h1 : ∀ R : DSt → Own → Prop, (∀ S' O', Mid S' O' → R S' O') → dSeq t (dSeq t2 t3) { D with nx := R } S O) (h2 : ∀ S' O', Mid S' O' → u D S' O') : dSeq t (dSeq t2 (dSeq t3 u)) D S O := h1 _ h2
abbrev lets : List Nat := tl (Str.ofString "abcdefghijklmnopqrstuvwxyz")
abbrev nums : List Nat := tl (Str.ofString "0123456789")
def Glues (last word : Str) : Prop := ∃ x y, (tl last).getLast? = some x ∧ (tl word).head? = some y ∧ ((x ∈ lets ∧ y ∈ lets) ∨ (x ∈ nums ∧ y ∈ nums) ∨ (last = "<" ∧ y ∈ tl (Str.ofString "=>")))
/-- what stands behind a row's words -/
def Tail (t : Str) : Prop := t = "" ∨ t = " " ∨ t = "  # if x"
/-- a row without words -/
def Spare (t : Str) : Prop := t = "" ∨ t = "   " ∨ t = "# end"
end W1
namespace W1
open PySem PySem.Spec PyProof.Rows L2 TL DL
/-- all that stood before stands, but these -/
def Fr (O O' : Own) (as : List Addr) : Prop := ∀ b, b ∉ as → O b ≠ none → O' b = O b
theorem Fr.at {O O' : Own} {as : List Addr} (h : Fr O O' as) {b : Addr} {c : Cell} (hb : O b = some c) (hn : b ∉ as) : O' b = some c := by rw [h b hn (by rw [hb]; simp), hb]
theorem flat_one (g : Nat) (x : Nat) : (List.replicate g [x]).flatten = List.replicate g x := by
  induction g with
  | zero => rfl
  | succ g ih => rw [List.replicate_succ, List.flatten_cons, ih]; rfl
theorem repS_sp (g : Int) : repS " " g = ofL (List.replicate g.toNat 32) := by
  unfold repS
  rw [show tl (Str.ofString " ") = [32] from rfl, flat_one]
theorem ne_of {O : Own} {a p : Addr} {c : Cell} (h : O a = some c) (hp : O p = none) : a ≠ p := by
  rintro rfl; rw [h] at hp; cases hp
end W1
namespace W1
open PySem PySem.Spec PyProof.Rows L2 TL DL
theorem lcW_by {ow : Bool} {b : DV → DSt → Option DSt} {te : DTE} {S : DSt} {Q : DVK} (I : List DV → Own → Prop) : ∀ (xs acc : List DV) (O : Own), I acc O → acc.length + xs.length < 16000000 →
    (∀ x ∈ xs, ∀ (acc : List DV) (O : Own) (K : DVK), I acc O → (∀ y O', I (acc ++ [y]) O' → K y O') → onSome (b x S) fun S2 => te S2 O K) →
    (∀ acc' O, I acc' O → acc'.length = acc.length + xs.length → endLc ow Q acc' O) → lcW ow b dYes te S Q xs acc O
  | [], acc, O, h, _, _, k => k acc O h rfl
  | x :: xs, acc, O, h, hl, hs, k => by
    unfold lcW
    rw [List.length_cons] at hl
    have h1 := hs x List.mem_cons_self acc O (fun y O3 => acc.length < 16000000 ∧ lcW ow b dYes te S Q xs (acc ++ [y]) O3) h (fun y O' h' => ⟨by omega, lcW_by I xs (acc ++ [y]) O' h' (by rw [List.length_append]; simp; omega) (fun x hx => hs x (List.mem_cons_of_mem _ hx)) (fun acc' O h2 h3 => k acc' O h2 (by rw [h3, List.length_append, List.length_cons]; simp; omega))⟩)
    obtain ⟨S2, e, h2⟩ := onSome_ex h1
    exact onSome_of e h2
end W1
namespace W1
open PySem PySem.Spec PyProof.Rows L2 TL DL
theorem strsOf_map {α : Type} (f : α → Str) : ∀ l : List α, strsOf (l.map fun x => DV.str (f x)) = some (l.map f)
  | [] => rfl
  | x :: l => by
    have := strsOf_map f l
    simp only [List.map_cons, strsOf, this]
theorem joinL_nil : ∀ ps : List (List Nat), TL.joinL [] ps = ps.flatten
  | [] => rfl
  | [p] => by simp [TL.joinL]
  | p :: q :: r => by
    have := joinL_nil (q :: r)
    simp only [TL.joinL, List.flatten_cons] at this ⊢
    simp [this]
theorem join_chars (l : List Nat) : Txt.join "" (l.map fun x => (⟨#[x]⟩ : Str)) = ofL l := by
  rw [TL.join_eq]
  apply ext_tl
  rw [TL.tl_join, List.map_map, show tl (Str.ofString "") = [] from rfl, joinL_nil, tl_ofL]
  induction l with
  | nil => rfl
  | cons x l ih => rw [List.map_cons, List.flatten_cons, ih]; rfl
theorem sum_ones (l : List Nat) : ((l.map fun x => (⟨#[x]⟩ : Str)).map (fun x => (tl x).length)).sum = l.length := by
  induction l with
  | nil => rfl
  | cons x l ih => rw [List.map_cons, List.map_cons, List.sum_cons, ih, List.length_cons]; exact Nat.add_comm 1 _
end W1

set_option Elab.async false
set_option linter.all false
set_option maxRecDepth 100000
namespace W1
open PySem PySem.Spec PyProof.Rows L2 TL DL
/-! ### a row that grows word by word -/
/-- what follows does not stick to the last word -/
def NG (last t : List Nat) : Prop := ∀ x y, last.getLast? = some x → t.head? = some y → ¬ ((x ∈ letters ∧ y ∈ letters) ∨ (x ∈ figs ∧ y ∈ figs) ∨ (last = [60] ∧ (y = 61 ∨ y = 62)))
def Ext (row : List Nat) (ws : List Wd) (last : List Nat) : Prop := ∀ t ws', NG last t → Scan t row.length ws' → Scan (row ++ t) 0 (ws ++ ws')
def WordOk (k : Str) (w : List Nat) : Prop := k ≠ "" ∧ (∃ c r, w = c :: r ∧ c ≠ 35 ∧ c ≠ 32) ∧ w.length ≤ 6 ∧ 10 ∉ w ∧ ∀ t, NG w t → wordL (w ++ t) = (k, w)
theorem scan_blanks {t : List Nat} {ws : List Wd} : ∀ (g e : Nat), Scan t (e + g) ws → Scan (List.replicate g 32 ++ t) e ws
  | 0, e, h => h
  | g + 1, e, h => .blank (scan_blanks g (e + 1) (by rw [show e + 1 + g = e + (g + 1) by omega]; exact h))
theorem ext0 : Ext [] [] [] := fun t ws' _ h => h
theorem ext_word {row : List Nat} {ws : List Wd} {last : List Nat} {k : Str} {w : List Nat} {g : Nat} (h : Ext row ws last) (hw : WordOk k w) (hg : g = 0 → NG last w) :
    Ext (row ++ List.replicate g 32 ++ w) (ws ++ [(k, w, row.length + g)]) w := by
  intro t ws' ht hs
  obtain ⟨hk, ⟨c, r, rfl, h1, h2⟩, _, _, hw'⟩ := hw
  have e := hw' t ht
  have s1 : Scan ((c :: r) ++ t) (row.length + g) ((k, c :: r, row.length + g) :: ws') := by
    refine Scan.word h1 h2 e hk ?_
    show Scan (((c :: r) ++ t).drop (c :: r).length) _ _
    rw [List.drop_left]
    rw [List.length_append, List.length_append, List.length_replicate] at hs
    exact hs
  have s2 := scan_blanks g row.length s1
  have := h (List.replicate g 32 ++ ((c :: r) ++ t)) _ ?_ s2
  · rw [List.append_assoc, List.append_assoc, List.append_assoc]; exact this
  · intro x y hx hy
    cases g with
    | zero =>
      have := hg rfl x c hx rfl
      cases hy; exact this
    | succ g =>
      cases hy
      rintro (⟨_, h⟩ | ⟨_, h⟩ | ⟨_, h | h⟩)
      · revert h; decide
      · revert h; decide
      · cases h
      · cases h
theorem ext_end {row t : List Nat} {ws : List Wd} {last : List Nat} (h : Ext row ws last) (ht : t = [] ∨ ∃ r, t = 32 :: r) (hs : ∀ e, Scan t e []) : Scan (row ++ t) 0 ws := by
  have := h t [] ?_ (hs _)
  · rw [List.append_nil] at this; exact this
  · intro x y hx hy
    rcases ht with rfl | ⟨r, rfl⟩
    · cases hy
    · cases hy
      rintro (⟨_, h⟩ | ⟨_, h⟩ | ⟨_, h | h⟩)
      · revert h; decide
      · revert h; decide
      · cases h
      · cases h
theorem span_all {g w t : List Nat} (hw : ∀ c ∈ w, c ∈ g) (hn : ∀ x y, w.getLast? = some x → t.head? = some y → x ∈ g → y ∉ g) (hne : w ≠ []) : spanIn g (w ++ t) = w := by
  refine spanIn_app hw fun c hc => ?_
  have e : w.getLast? = some (w.getLast hne) := List.getLast?_eq_some_getLast hne
  exact hn _ c e hc (hw _ (List.getLast_mem hne))
theorem name_ok {w : Str} (h : IsName w) : WordOk "name" (tl w) := by
  obtain ⟨c, l, e, hc, hl, hn⟩ := h
  have all : ∀ x ∈ tl w, x ∈ letters := by
    rw [e]
    intro x hx
    have k1 : ∀ x ∈ tl (Str.ofString "bfhjpqrtvxz"), x ∈ letters := by decide +kernel
    have k2 : ∀ x ∈ tl (Str.ofString "abdefilmnostuwy"), x ∈ letters := by decide +kernel
    rcases List.mem_cons.mp hx with rfl | hx
    · exact k1 _ hc
    · exact k2 _ (hl _ hx)
  have hcl : c ∈ letters := all c (by rw [e]; exact List.mem_cons_self)
  refine ⟨by decide, ⟨c, l, e, ?_, ?_⟩, by rw [e]; simp; omega, ?_, fun t ht => ?_⟩
  · rintro rfl; revert hcl; decide
  · rintro rfl; revert hcl; decide
  · intro h; have := all _ h; revert this; decide
  · have hs : spanIn letters (tl w ++ t) = tl w := span_all all (fun x y hx hy h1 h2 => ht x y hx hy (.inl ⟨h1, h2⟩)) (by rw [e]; simp)
    have hh : (tl w ++ t).head? = some c := by rw [e]; rfl
    have := wordL_name hh hcl (by
      rw [hs, ofL_tl]
      intro hm
      have k3 : ∀ s ∈ ownW, ∀ d ∈ (tl s).head?, d ∉ tl (Str.ofString "bfhjpqrtvxz") := by decide +kernel
      exact k3 w hm c (by rw [e]; rfl) hc) (by rw [hs, e]; simp; omega)
    rw [this, hs]
theorem own_ok {w : Str} (h : w ∈ ownW) : WordOk "own" (tl w) := by
  have k : ∀ s ∈ ownW, (∀ x ∈ tl s, x ∈ letters) ∧ tl s ≠ [] ∧ (tl s).length ≤ 6 := by decide +kernel
  obtain ⟨all, hne, hl⟩ := k w h
  obtain ⟨c, l, e⟩ := List.exists_cons_of_ne_nil hne
  have hcl : c ∈ letters := all c (by rw [e]; exact List.mem_cons_self)
  refine ⟨by decide, ⟨c, l, e, ?_, ?_⟩, hl, ?_, fun t ht => ?_⟩
  · rintro rfl; revert hcl; decide
  · rintro rfl; revert hcl; decide
  · intro h; have := all _ h; revert this; decide
  · have hs : spanIn letters (tl w ++ t) = tl w := span_all all (fun x y hx hy h1 h2 => ht x y hx hy (.inl ⟨h1, h2⟩)) hne
    have hh : (tl w ++ t).head? = some c := by rw [e]; rfl
    have := wordL_own hh hcl (by rw [hs, ofL_tl]; exact h)
    rw [this, hs]
def IsNum (w : List Nat) : Prop := w ≠ [] ∧ (∀ x ∈ w, x ∈ figs) ∧ w.length ≤ 6 ∧ (w = [48] ∨ w.head? ≠ some 48)
theorem num_ok {w : List Nat} (h : IsNum w) : WordOk "num" w := by
  obtain ⟨hne, all, hl, h0⟩ := h
  obtain ⟨c, l, e⟩ := List.exists_cons_of_ne_nil hne
  have hcf : c ∈ figs := all c (by rw [e]; exact List.mem_cons_self)
  have hcl : c ∉ letters := by
    have k : ∀ x ∈ figs, x ∉ letters := by decide +kernel
    exact k c hcf
  refine ⟨by decide, ⟨c, l, e, ?_, ?_⟩, hl, ?_, fun t ht => ?_⟩
  · rintro rfl; revert hcf; decide
  · rintro rfl; revert hcf; decide
  · intro h; have := all _ h; revert this; decide
  · have hs : spanIn figs (w ++ t) = w := span_all all (fun x y hx hy h1 h2 => ht x y hx hy (.inr (.inl ⟨h1, h2⟩))) hne
    have hh : (w ++ t).head? = some c := by rw [e]; rfl
    have := wordL_num hh hcl hcf (by rw [hs]; exact hl) (by
      rw [hs]
      rcases h0 with h0 | h0
      · exact .inl h0
      · exact .inr (by rintro rfl; exact h0 (by rw [e]; rfl)))
    rw [this, hs]
theorem sign_ok {w : Str} (h : w ∈ signsW) : WordOk "sign" (tl w) := by
  have k : ∀ s ∈ signsW, (∀ x ∈ tl s, x ∉ letters ∧ x ∉ figs ∧ x ≠ 35 ∧ x ≠ 32 ∧ x ≠ 10) ∧ tl s ≠ [] ∧ (tl s).length ≤ 6 := by decide +kernel
  obtain ⟨all, hne, hl⟩ := k w h
  obtain ⟨c, l, e⟩ := List.exists_cons_of_ne_nil hne
  have hc := all c (by rw [e]; exact List.mem_cons_self)
  refine ⟨by decide, ⟨c, l, e, hc.2.2.1, hc.2.2.2.1⟩, hl, fun q => (all _ q).2.2.2.2 rfl, fun t ht => ?_⟩
  have hh : (tl w ++ t).head? = some c := by rw [e]; rfl
  refine wordL_sign hh hc.1 hc.2.1 ?_
  clear hh hc e hl hne all k
  simp only [signsW, List.mem_cons, List.not_mem_nil, or_false] at h
  rcases h with rfl | rfl | rfl | rfl | rfl | rfl | rfl | rfl | rfl | rfl | rfl | rfl
  all_goals first
    | rfl
    | skip
  cases t with
  | nil => rfl
  | cons y t =>
    have hn := ht 60 y rfl rfl
    have n1 : y ≠ 61 := fun e => hn (.inr (.inr ⟨rfl, .inl e⟩))
    have n2 : y ≠ 62 := fun e => hn (.inr (.inr ⟨rfl, .inr e⟩))
    have f1 : ∀ s : Str, s = "<>" ∨ s = "<=" → ¬ ((tl (Str.ofString "<") ++ y :: t).take (tl s).length = tl s) := by
      rintro s (rfl | rfl) h
      · have h : [60, y] = [60, 62] := h
        exact n2 (by simpa using h)
      · have h : [60, y] = [60, 61] := h
        exact n1 (by simpa using h)
    unfold signsW
    rw [List.find?_cons_of_neg (by simpa using f1 _ (.inl rfl)), List.find?_cons_of_neg (by simpa using f1 _ (.inr rfl))]
    rfl
end W1
namespace W1
open PySem PySem.Spec PyProof.Rows L2 TL DL
theorem dig_facts (n : Nat) : (∀ c ∈ Nat.toDigits 10 n, c.toNat ∈ figs) ∧ Nat.toDigits 10 n ≠ [] ∧ (n ≠ 0 → (Nat.toDigits 10 n).head? ≠ some '0') ∧ ∀ k, n < 10 ^ (k + 1) → (Nat.toDigits 10 n).length ≤ k + 1 := by
  have dc : ∀ d, d < 10 → (Nat.digitChar d).toNat ∈ figs := by decide +kernel
  have d0 : ∀ d, d < 10 → d ≠ 0 → Nat.digitChar d ≠ '0' := by decide +kernel
  induction n using Nat.strongRecOn with
  | _ n ih =>
    by_cases h : n < 10
    · rw [Nat.toDigits_of_lt_base h]
      refine ⟨fun c hc => by simp at hc; subst hc; exact dc n h, by simp, fun h0 e => d0 n h h0 (by simpa using e), fun k _ => by simp⟩
    · have h' : 10 ≤ n := by omega
      obtain ⟨a1, a2, a3, a4⟩ := ih (n / 10) (by omega)
      rw [Nat.toDigits_of_base_le (by decide) h']
      refine ⟨fun c hc => ?_, by simp, fun _ e => ?_, fun k hk => ?_⟩
      · rcases List.mem_append.mp hc with hc | hc
        · exact a1 c hc
        · simp at hc; subst hc; exact dc _ (Nat.mod_lt _ (by decide))
      · refine a3 (by omega) ?_
        cases ed : Nat.toDigits 10 (n / 10) with
        | nil => exact absurd ed a2
        | cons c l => rw [ed] at e; exact e
      · cases k with
        | zero => simp at hk; omega
        | succ k =>
          have := a4 k (by rw [Nat.pow_succ] at hk; omega)
          rw [List.length_append]; simp; omega
theorem tl_digits (n : Nat) : tl (Str.ofString (toString (n : Int))) = (Nat.toDigits 10 n).map Char.toNat := by
  have e : toString (n : Int) = String.ofList (Nat.toDigits 10 n) := rfl
  rw [e, Str.ofString_eq_toList]
  simp [tl]
theorem isnum_of (r : Int) (h0 : 0 ≤ r) (h1 : r < 1000000) : IsNum (tl (Str.ofString (toString r))) := by
  obtain ⟨n, rfl⟩ : ∃ n : Nat, r = n := ⟨r.toNat, by omega⟩
  rw [tl_digits]
  obtain ⟨a1, a2, a3, a4⟩ := dig_facts n
  refine ⟨by simpa using a2, fun x hx => ?_, ?_, ?_⟩
  · obtain ⟨c, hc, rfl⟩ := List.mem_map.mp hx
    exact a1 c hc
  · rw [List.length_map]
    exact a4 5 (by show n < 10 ^ 6; omega)
  · by_cases hn : n = 0
    · subst hn; exact .inl rfl
    · refine .inr fun e => a3 hn ?_
      cases ed : Nat.toDigits 10 n with
      | nil => exact absurd ed a2
      | cons c l =>
        rw [ed] at e
        have e : c.toNat = 48 := by simpa using e
        have : c = '0' := Char.toNat_inj.mp e
        rw [this]; rfl
theorem log2_of (r : Int) (h0 : 0 ≤ r) (h1 : r < 1000000) : r.natAbs.log2 < 1920 := by
  by_cases h : r.natAbs = 0
  · rw [h]; decide
  · have : r.natAbs < 2 ^ 20 := by have : (2:Nat) ^ 20 = 1048576 := by decide
                                   omega
    have := (Nat.log2_lt h).mpr this
    omega
end W1
namespace W1
open PySem PySem.Spec PyProof.Rows L2 TL DL
/-! ### the rows together -/
theorem scanRows_app : ∀ {rs rs2 : List Str} {wss wss2 : List (List Wd)}, ScanRows rs wss → ScanRows rs2 wss2 → ScanRows (rs ++ rs2) (wss ++ wss2)
  | [], _, [], _, _, h2 => h2
  | r :: rs, _, ws :: wss, _, h, h2 => ⟨h.1, scanRows_app h.2 h2⟩
  | [], _, _ :: _, _, h, _ => h.elim
  | _ :: _, _, [], _, h, _ => h.elim
theorem encAll_app : ∀ {wss wss2 : List (List Wd)} {n : Nat}, encAll n (wss ++ wss2) = encAll n wss ++ encAll (n + wss.length) wss2
  | [], _, _ => rfl
  | ws :: wss, wss2, n => by
    simp only [List.cons_append, encAll, List.length_cons]
    rw [encAll_app, List.append_assoc, show n + 1 + wss.length = n + (wss.length + 1) by omega]
theorem encAll_empty : ∀ {wss : List (List Wd)} {n : Nat}, (∀ ws ∈ wss, ws = []) → encAll n wss = []
  | [], _, _ => rfl
  | ws :: wss, n, h => by
    have := h ws List.mem_cons_self
    subst this
    simp only [encAll, List.map_nil, List.nil_append]
    exact encAll_empty fun ws hw => h ws (List.mem_cons_of_mem _ hw)
theorem spare_scan {t : Str} (h : Spare t) : ∀ e, Scan (tl t) e [] := by
  rcases h with rfl | rfl | rfl
  · exact fun e => .nil e
  · exact fun e => .blank (.blank (.blank (.nil _)))
  · exact fun e => .rem _ _
theorem tail_scan {t : Str} (h : Tail t) : (tl t = [] ∨ ∃ r, tl t = 32 :: r) ∧ ∀ e, Scan (tl t) e [] := by
  rcases h with rfl | rfl | rfl
  · exact ⟨.inl rfl, fun e => .nil e⟩
  · exact ⟨.inr ⟨_, rfl⟩, fun e => .blank (.nil _)⟩
  · exact ⟨.inr ⟨_, rfl⟩, fun e => .blank (.blank (.rem _ _))⟩
theorem small_rows {t : Str} : (Tail t ∨ Spare t) → (tl t).length ≤ 8 ∧ 10 ∉ tl t := by
  rintro ((rfl | rfl | rfl) | (rfl | rfl | rfl)) <;> decide +kernel
/-- the rows so far, with what was told of them -/
structure RowsOk (n : Nat) (rows : List Str) (due : List DV) (wss : List (List Wd)) : Prop where
  sc : ScanRows rows wss
  du : due = encAll 0 wss
  len : rows.length ≤ 2 * n
  row : ∀ r ∈ rows, (tl r).length ≤ 200 ∧ 10 ∉ tl r
  cnt : due.length ≤ 20 * n
structure RowOk (k : Nat) (n : Nat) (row last : Str) (more : List DV) (ws : List Wd) : Prop where
  ex : Ext (tl row) ws (tl last)
  du : more = ws.map (encW ((n : Int) + 1))
  len : (tl row).length ≤ 10 * k
  cnt : more.length ≤ k
  nl : 10 ∉ tl row
theorem RowsOk.next {n k : Nat} {rows : List Str} {due more : List DV} {wss : List (List Wd)} {row last t : Str} {ws : List Wd} {sp : List Str} (h : RowsOk n rows due wss) (h2 : RowOk k rows.length row last more ws) (hk : k ≤ 11)
    (ht : Tail t) (hsp : ∀ r ∈ sp, Spare r) (hl : sp.length ≤ 1) : RowsOk (n + 1) (rows ++ [ofL (tl row ++ tl t)] ++ sp) (due ++ more) (wss ++ [ws] ++ sp.map fun _ => []) := by
  have hsp2 : ∀ {sp : List Str}, (∀ r ∈ sp, Spare r) → ScanRows sp (sp.map fun _ => []) := by
    intro sp
    induction sp with
    | nil => intro _; exact trivial
    | cons r sp ih => exact fun h => ⟨spare_scan (h r List.mem_cons_self) 0, ih fun r hr => h r (List.mem_cons_of_mem _ hr)⟩
  have := h.len
  have := h.cnt
  have := h2.cnt
  refine ⟨scanRows_app (scanRows_app h.sc ⟨ext_end h2.ex (tail_scan ht).1 (tail_scan ht).2, trivial⟩) (hsp2 hsp), ?_, by simp; omega, fun r hr => ?_, by rw [List.length_append]; omega⟩
  · rw [encAll_app, encAll_app, encAll_empty (wss := sp.map _) (by simp), List.append_nil, ← h.du, h2.du, scanRows_len h.sc]
    simp [encAll]
  · simp only [List.mem_append, List.mem_singleton] at hr
    rcases hr with (hr | rfl) | hr
    · exact h.row r hr
    · have := small_rows (.inl ht)
      have := h2.len
      rw [tl_ofL, List.length_append]
      exact ⟨by omega, fun q => (List.mem_append.mp q).elim h2.nl (small_rows (.inl ht)).2⟩
    · have := small_rows (.inr (hsp r hr))
      exact ⟨by omega, this.2⟩
theorem RowOk.next {n k : Nat} {row last word : Str} {more : List DV} {ws : List Wd} {kd : Str} {g : Nat} (h : RowOk k n row last more ws) (hw : WordOk kd (tl word)) (hg : g ≤ 3) (hgl : g = 0 → NG (tl last) (tl word)) :
    RowOk (k + 1) n (ofL (tl row ++ List.replicate g 32 ++ tl word)) word (more ++ [.tup [.str kd, .str word, .tup [.int ((n : Int) + 1), .int ((tl row).length + g + 1)]]]) (ws ++ [(kd, tl word, (tl row).length + g)]) := by
  have := h.len
  have := h.cnt
  have hl := hw.2.2.1
  refine ⟨ext_word h.ex hw hgl, ?_, ?_, by simp; omega, ?_⟩
  · rw [List.map_append, ← h.du]
    simp only [List.map_cons, List.map_nil, encW, ofL_tl]
    simp
  · rw [tl_ofL, List.length_append, List.length_append, List.length_replicate]; omega
  · rw [tl_ofL]
    intro q
    rcases List.mem_append.mp q with q | q
    · rcases List.mem_append.mp q with q | q
      · exact h.nl q
      · have := List.eq_of_mem_replicate q; omega
    · exact hw.2.2.2.1 q
theorem joinL_len {c : Nat} : ∀ (ps : List (List Nat)), (TL.joinL [c] ps).length ≤ (ps.map List.length).sum + ps.length
  | [] => by simp [TL.joinL]
  | [p] => by simp [TL.joinL]
  | p :: q :: r => by
    have := joinL_len (c := c) (q :: r)
    simp only [TL.joinL, List.map_cons, List.sum_cons, List.length_cons, List.length_append] at this ⊢
    simp at this ⊢
    omega
theorem sum_le {rows : List Str} (h : ∀ r ∈ rows, (tl r).length ≤ 200) : (rows.map fun r => (tl r).length).sum ≤ 200 * rows.length := by
  induction rows with
  | nil => simp
  | cons r rows ih =>
    have h1 := h r List.mem_cons_self
    have h2 := ih fun r hr => h r (List.mem_cons_of_mem _ hr)
    rw [List.map_cons, List.sum_cons, List.length_cons]; omega
/-- what the text of the rows says -/
theorem text_ok {n : Nat} {rows : List Str} {due : List DV} {wss : List (List Wd)} (h : RowsOk n rows due wss) (hn : n ≤ 20) :
    ∃ (rs : List Str) (wss' : List (List Wd)), (tl (Txt.join "\n" rows)).length ≤ 10000000 ∧ Txt.split (Txt.join "\n" rows) (Str.ofString "\n") = rs ∧ (∀ r ∈ rs, (tl r).length ≤ 10000) ∧ rs.length ≤ 1000 ∧ ScanRows rs wss' ∧ due = encAll 0 wss' := by
  cases hr : rows with
  | nil =>
    subst hr
    have hw : wss = [] := by
      have := scanRows_len h.sc
      exact List.length_eq_zero_iff.mp this.symm
    subst hw
    refine ⟨[""], [[]], by decide +kernel, by decide +kernel, by decide +kernel, by decide, ⟨.nil _, trivial⟩, h.du⟩
  | cons r0 rs0 =>
    rw [← hr]
    refine ⟨rows, wss, ?_, split_join (y := "\n") (s := 10) (S := []) rfl (by decide +kernel) (by rw [hr]; simp) (fun p hp => (h.row p hp).2), fun r hr => by have := (h.row r hr).1; omega, by have := h.len; omega, h.sc, h.du⟩
    have h1 := joinL_len (c := 10) (rows.map tl)
    have h2 := sum_le fun r hr => (h.row r hr).1
    have h3 := h.len
    rw [TL.join_eq, TL.tl_join]
    rw [List.map_map, List.length_map] at h1
    have e : (List.length ∘ tl : Str → Nat) = fun r => (tl r).length := rfl
    rw [e] at h1
    show (TL.joinL [10] (rows.map tl)).length ≤ _
    omega
theorem pure_due {wss : List (List Wd)} (hl : (encAll 0 wss).length ≤ 1000000) : Pure 3 (.lst (encAll 0 wss)) := by
  refine .lst ?_ hl
  have : ∀ (wss : List (List Wd)) (n : Nat), ∀ x ∈ encAll n wss, Pure 2 x := by
    intro wss
    induction wss with
    | nil => intro n x hx; cases hx
    | cons ws wss ih =>
      intro n x hx
      rcases List.mem_append.mp hx with hx | hx
      · obtain ⟨w, _, rfl⟩ := List.mem_map.mp hx
        refine .tup (fun y hy => ?_) (by simp)
        simp only [List.mem_cons, List.not_mem_nil, or_false] at hy
        rcases hy with rfl | rfl | rfl
        · exact .str _
        · exact .str _
        · refine .tup (fun y hy => ?_) (by simp)
          simp only [List.mem_cons, List.not_mem_nil, or_false] at hy
          rcases hy with rfl | rfl
          · exact .int _
          · exact .int _
      · exact ih _ x hx
  exact this wss 0
theorem ng_of {last word : Str} (h : ¬ Glues last word) : NG (tl last) (tl word) := by
  intro x y hx hy q
  refine h ⟨x, y, hx, hy, ?_⟩
  rcases q with q | q | ⟨q1, q2⟩
  · exact .inl q
  · exact .inr (.inl q)
  · refine .inr (.inr ⟨ext_tl q1, ?_⟩)
    rcases q2 with rfl | rfl <;> decide
end W1

set_option Elab.async false
set_option linter.all false
set_option maxRecDepth 100000
namespace W1
open PySem PySem.Spec PyProof.Rows L2 TL DL
structure Apart4 (d w rl q : Addr) : Prop where
  dw : d ≠ w
  dr : d ≠ rl
  dq : d ≠ q
  wr : w ≠ rl
  wq : w ≠ q
  rq : rl ≠ q
def InvR (d w rl q : Addr) (n k : Nat) (O : Own) : Prop := ∃ (c : Cell) (rows : List Str) (due : List DV) (wss : List (List Wd)) (row last : Str) (more : List DV) (ws : List Wd),
  O d = some c ∧ Dice c ∧ O w = some (WCell rl row last) ∧ O rl = some (.lst (rows.map DV.str)) ∧ O q = some (.lst (due ++ more)) ∧ RowsOk n rows due wss ∧ RowOk k rows.length row last more ws ∧ (tl last).length ≤ 6
def Inv (d w rl q : Addr) (n : Nat) (O : Own) : Prop := ∃ (c : Cell) (rows : List Str) (due : List DV) (wss : List (List Wd)),
  O d = some c ∧ Dice c ∧ O w = some (WCell rl ⟨#[]⟩ ⟨#[]⟩) ∧ O rl = some (.lst (rows.map DV.str)) ∧ O q = some (.lst due) ∧ RowsOk n rows due wss
theorem InvR.frame {d w rl q : Addr} {n k : Nat} {O O' : Own} {c' : Cell} (h : InvR d w rl q n k O) (hc : O' d = some c') (hD : Dice c') (h1 : O' w = O w) (h2 : O' rl = O rl) (h3 : O' q = O q) : InvR d w rl q n k O' := by
  obtain ⟨c, rows, due, wss, row, last, more, ws, a1, a2, a3, a4, a5, a6⟩ := h
  exact ⟨c', rows, due, wss, row, last, more, ws, hc, hD, by rw [h1, a3], by rw [h2, a4], by rw [h3, a5], a6⟩
theorem Inv.frame {d w rl q : Addr} {n : Nat} {O O' : Own} {c' : Cell} (h : Inv d w rl q n O) (hc : O' d = some c') (hD : Dice c') (h1 : O' w = O w) (h2 : O' rl = O rl) (h3 : O' q = O q) : Inv d w rl q n O' := by
  obtain ⟨c, rows, due, wss, a1, a2, a3, a4, a5, a6⟩ := h
  exact ⟨c', rows, due, wss, hc, hD, by rw [h1, a3], by rw [h2, a4], by rw [h3, a5], a6⟩
theorem Inv.dice {d w rl q : Addr} {n : Nat} {O : Own} {c' : Cell} (A : Apart4 d w rl q) (h : Inv d w rl q n O) (hD : Dice c') : Inv d w rl q n (oset O d c') :=
  h.frame oset_same hD (oset_ne (Ne.symm A.dw)) (oset_ne (Ne.symm A.dr)) (oset_ne (Ne.symm A.dq))
theorem InvR.dice {d w rl q : Addr} {n k : Nat} {O : Own} {c' : Cell} (A : Apart4 d w rl q) (h : InvR d w rl q n k O) (hD : Dice c') : InvR d w rl q n k (oset O d c') :=
  h.frame oset_same hD (oset_ne (Ne.symm A.dw)) (oset_ne (Ne.symm A.dr)) (oset_ne (Ne.symm A.dq))
theorem Inv.start {d w rl q : Addr} {n : Nat} {O : Own} (h : Inv d w rl q n O) : InvR d w rl q n 0 O := by
  obtain ⟨c, rows, due, wss, a1, a2, a3, a4, a5, a6⟩ := h
  exact ⟨c, rows, due, wss, ⟨#[]⟩, ⟨#[]⟩, [], [], a1, a2, a3, a4, by rw [List.append_nil]; exact a5, a6, ⟨ext0, rfl, by decide, by decide, by decide⟩, by decide⟩
theorem InvR.up {d w rl q : Addr} {n k : Nat} {O : Own} (h : InvR d w rl q n k O) : InvR d w rl q n (k + 1) O := by
  obtain ⟨c, rows, due, wss, row, last, more, ws, a1, a2, a3, a4, a5, a6, ⟨b1, b2, b3, b4, b5⟩, a7⟩ := h
  exact ⟨c, rows, due, wss, row, last, more, ws, a1, a2, a3, a4, a5, a6, ⟨b1, b2, by omega, by omega, b5⟩, a7⟩
/-- a drawn word stands -/
def Drawn (kd word : Str) : Prop := WordOk kd (tl word)
theorem InvR.line {d w rl q : Addr} {n k : Nat} {O' : Own} {c' : Cell} {rows : List Str} {due more : List DV} {wss : List (List Wd)} {row last t : Str} {ws : List Wd} {sp : List Str}
    (hq : O' q = some (.lst (due ++ more))) (h6 : RowsOk n rows due wss) (h7 : RowOk k rows.length row last more ws) (hk : k ≤ 11) (ht : Tail t) (hsp : ∀ r ∈ sp, Spare r) (hl : sp.length ≤ 1) (hD : Dice c') (hc : O' d = some c')
    (hr : O' rl = some (.lst ((rows ++ [ofL (tl row ++ tl t)] ++ sp).map DV.str))) (hw : O' w = some (WCell rl ⟨#[]⟩ ⟨#[]⟩)) : Inv d w rl q (n + 1) O' :=
  ⟨c', _, _, _, hc, hD, hw, hr, hq, h6.next h7 hk ht hsp hl⟩
end W1
namespace W1
open PySem PySem.Spec PyProof.Rows L2 TL DL
theorem kn1 : ¬ (Str.ofString "num" = Str.ofString "name") := by decide +kernel
theorem kn2 : ¬ (Str.ofString "own" = Str.ofString "name") := by decide +kernel
theorem kn3 : ¬ (Str.ofString "sign" = Str.ofString "name") := by decide +kernel
theorem kn4 : ¬ (Str.ofString "name" = Str.ofString "own") := by decide +kernel
theorem kn5 : ¬ (Str.ofString "num" = Str.ofString "own") := by decide +kernel
theorem kn6 : ¬ (Str.ofString "sign" = Str.ofString "own") := by decide +kernel
theorem kn7 : ¬ (Str.ofString "name" = Str.ofString "sign") := by decide +kernel
theorem kn8 : ¬ (Str.ofString "num" = Str.ofString "sign") := by decide +kernel
theorem kn9 : ¬ (Str.ofString "own" = Str.ofString "sign") := by decide +kernel
theorem pick_m {r : Int} (h0 : 0 ≤ r) (h1 : r < 2) : ∃ m : Int, atI [DV.int 10, DV.int 1000000] r = some (.int m) ∧ 0 < m ∧ m ≤ 1000000 := by
  have e : r = 0 ∨ r = 1 := by omega
  rcases e with rfl | rfl
  · exact ⟨10, rfl, by decide, by decide⟩
  · exact ⟨1000000, rfl, by decide, by decide⟩
theorem InvR.d {d w rl q : Addr} {n k : Nat} {O : Own} (h : InvR d w rl q n k O) : ∃ c, O d = some c ∧ Dice c := by
  obtain ⟨c, rows, due, wss, row, last, more, ws, a1, a2, _⟩ := h
  exact ⟨c, a1, a2⟩
theorem Inv.d {d w rl q : Addr} {n : Nat} {O : Own} (h : Inv d w rl q n O) : ∃ c, O d = some c ∧ Dice c := by
  obtain ⟨c, rows, due, wss, a1, a2, _⟩ := h
  exact ⟨c, a1, a2⟩
theorem InvR.ne {d w rl q : Addr} {n k : Nat} {O : Own} (h : InvR d w rl q n k O) : O w ≠ none ∧ O rl ≠ none ∧ O q ≠ none := by
  obtain ⟨c, rows, due, wss, row, last, more, ws, a1, a2, a3, a4, a5, _⟩ := h
  rw [a3, a4, a5]; simp
end W1
namespace W1
open PySem PySem.Spec PyProof.Rows L2 TL DL
abbrev lawSigns : List Str := ["(", ")", ",", ".", "=", "<>", "<", "<=", "+", "-", "*", "/"]
theorem lawSigns_in : ∀ s ∈ lawSigns, s ∈ signsW := by decide +kernel
end W1
namespace W1
open PySem PySem.Spec PyProof.Rows L2 TL DL
theorem strsOf_strs : ∀ l : List Str, strsOf (l.map DV.str) = some l
  | [] => rfl
  | x :: l => by
    have := strsOf_strs l
    simp only [List.map_cons, strsOf, this]
end W1

set_option Elab.async false
set_option linter.all false
set_option maxRecDepth 100000
set_option maxHeartbeats 4000000
namespace W1
open PySem PySem.Spec PyProof.Rows L2 TL DL
local macro_rules | `(tactic| walk_at "ev") => `(tactic| simp only [DL.dPar, DL.kPar_e1, DL.dSeq, DL.dAsg, DL.dVar, DL.dgName, DL.dgLst, DL.dgSub, List.length_cons, List.length_nil, List.set_cons_zero, List.set_cons_succ, DL.dAnd, DL.dOr, DL.dNot, DL.dTest, DL.dTrue, DL.dOp, DL.dCB, DL.dACons, DL.dANil, DL.dInQ, DL.dIxQ, DL.dAug, DL.dC, DL.dRet, DL.dRetF, DL.dRetN, DL.dSl, DL.dPart, DL.dNoPart, DL.dIf, DL.dIfS, DL.dTup, DL.dLstF, DL.dLstO, DL.dDrop, DL.dNever, DL.dNext, DL.dBreak, DL.dCont, DL.dFor, DL.dILst, DL.dITup, DL.dIStr, DL.dIRng1, DL.dIRng2, DL.dIEnum, DL.dIZip, DL.dBM, DL.dBM0, DL.dCall, DL.dAndV, DL.dOrV, DL.dNotV, DL.dNeg, DL.dDix, DL.dDin, DL.dDisp, DL.dDNew, DL.dLc, DL.dLc2, DL.bind1, DL.dYes, DL.dFrz, List.map_cons, List.map_nil, List.getElem?_cons_succ, List.getElem?_cons_zero, DL.atI_0, DL.atI_1, DL.atI_2, DL.atI_3, DL.atI_4, DL.atI_5, DL.atI_6, DL.atI_7, DL.ixN_0, DL.ixN_1, DL.ixN_2, DL.ixN_3, DL.oset_same, DL.tl_one, DL.tl_ofL, TL.len_tl, DL.atI_nat_, Bool.false_eq_true, Bool.not_false, Bool.not_true, if_true, if_false, decide_eq_true_eq, Bool.not_eq_true', Bool.not_eq_true, decide_eq_false_iff_not, Option.isSome_some, Option.isSome_none, reduceIte, and_true, true_and, Nat.zero_add, Nat.reduceAdd, Nat.reduceLeDiff, DL.onSome_e1, DL.onL_e1, DL.lstQ_e1, DL.lstQ_e2, DL.seqQ_e1, DL.seqQ_e2, DL.seqQ_e3, DL.seqQ_e4, DL.seqQ_e5, DL.sqlQ_e1, DL.sqlQ_e2, DL.sqlQ_e3, DL.onK_e1, DL.onT_e1, DL.dkQ_e1, DL.dkQ_e2, DL.dtQ_e1, DL.dtQ_e2, DL.findQ_e1, DL.findQ_e2, DL.findQ_e3, DL.dAdd_e1, DL.dAdd_e2, DL.dAdd_e3, DL.dAdd_e4, DL.dAdd_e5, DL.dAdd_e6, DL.dAdd_e7, DL.dI2_e1, DL.dSub_e1, DL.dCmpI_e1, DL.dEq_e1, DL.dEq_e2, DL.dEq_e3, DL.dEq_e4, DL.dEq_e5, DL.dEq_e6, DL.dEq_e7, DL.dEq_e8, DL.dEq_e9, DL.dEq_e10, DL.dEq_e11, DL.dEq_e12, DL.dEq_e13, DL.dEq_e14, DL.dEq_e15, DL.dIsN_e1, DL.isNon_e1, DL.dInS_e1, DL.dIn_e1, DL.dIn_e2, DL.dIn_e3, DL.dIn_e4, DL.dIn_e5, DL.dIn_e6, DL.dInK_e1, DL.dIx_e1, DL.dIx_e2, DL.dIx_e3, DL.dIx_e4, DL.dIx_e5, DL.dIx_e6, DL.kBl_e1, DL.kInt_e1, DL.kTru_e1, DL.kTru_e2, DL.kTru_e3, DL.kTru_e4, DL.kTru_e5, DL.kTru_e6, DL.kTru_e7, DL.kTru_e8, DL.kTru_e9, DL.kRef_e1, DL.kLst_e1, DL.kLst_e2, DL.kTup_e1, DL.kTup_e2, DL.kStr_e1, DL.kRng1_e1, DL.kRng2_e1, DL.kEnum_e1, DL.kEnum_e2, DL.kZip_e1, DL.frzC_e1, DL.frzC_e2, DL.frzC_e3, DL.dSlR_e1, DL.dSlR_e2, DL.dSlR_e3, DL.dSlR_e4, DL.dSlR_e5, DL.dLen_e1, DL.dLen_e2, DL.dLen_e3, DL.dLen_e4, DL.dLen_e5, DL.dLen_e6, DL.dInt_e1, DL.dInt_e2, DL.dInt_e3, DL.dStrI_e1, DL.dIsi_e1, DL.tyName_e1, DL.tyName_e2, DL.tyName_e3, DL.tyName_e4, DL.tyName_e5, DL.tyName_e6, DL.tyName_e7, DL.tyName_e8, DL.tyName_e9, DL.tyName_e10, DL.dApp_e1, DL.dJoin_e1, DL.dSplit_e1, DL.dgNil_e1, DL.dgCons_e1, DL.dgTup_e1, DL.dSetL_e1, DL.dSetD_e1, DL.dSetD_e2, DL.dSetD_e3, DL.dIAdd_e1, DL.dIAdd_e2, DL.dISub_e1, DL.apart_e1, DL.dUpd_e1, DL.dMulS_e1, DL.dInL_e1, DL.endLc_e1, DL.endLc_e2, DL.bindN_e1, DL.setAll_e1, DL.setAll_e2, DL.mTy_e1, DL.mTy_e2, DL.mTy_e3, DL.mTy_e4, DL.strsOf_e1, DL.strsOf_e2, DL.keyD_e1, DL.keyD_e2, DL.keysD_e1, DL.keysD_e2, DL.forW_e1, DL.forW_e2, DL.lcW_e1, DL.lcW_e2, DL.lcG_e1, DL.lcG_e2, DL.lc2W_e1, DL.lc2W_e2, DL.dPairs_e1, DL.dPairs_e2, DL.kvsOf_e1, DL.kvsOf_e2, DL.slot_e1, DL.slot_e2, DL.dwipe_e1, DL.dwipe_e2, DL.enumD_e1, DL.enumD_e2, DL.zipD_e1, DL.dstart_e1, DL.dstart_e2, DL.dstart_e3, DL.flatD_e1, DL.flatD_e2, DL.flatD_e3, DL.flatD_e4, DL.eqF_e1, DL.eqF_e2, DL.eqF_e3, DL.eqF_e4, DL.eqF_e5, DL.eqF_e6])
local macro_rules | `(tactic| wp_walk using $ts,*) => `(tactic| simp only [DL.dPar, DL.kPar_e1, DL.dSeq, DL.dAsg, DL.dVar, DL.dgName, DL.dgLst, DL.dgSub, List.length_cons, List.length_nil, List.set_cons_zero, List.set_cons_succ, DL.dAnd, DL.dOr, DL.dNot, DL.dTest, DL.dTrue, DL.dOp, DL.dCB, DL.dACons, DL.dANil, DL.dInQ, DL.dIxQ, DL.dAug, DL.dC, DL.dRet, DL.dRetF, DL.dRetN, DL.dSl, DL.dPart, DL.dNoPart, DL.dIf, DL.dIfS, DL.dTup, DL.dLstF, DL.dLstO, DL.dDrop, DL.dNever, DL.dNext, DL.dBreak, DL.dCont, DL.dFor, DL.dILst, DL.dITup, DL.dIStr, DL.dIRng1, DL.dIRng2, DL.dIEnum, DL.dIZip, DL.dBM, DL.dBM0, DL.dCall, DL.dAndV, DL.dOrV, DL.dNotV, DL.dNeg, DL.dDix, DL.dDin, DL.dDisp, DL.dDNew, DL.dLc, DL.dLc2, DL.bind1, DL.dYes, DL.dFrz, List.map_cons, List.map_nil, List.getElem?_cons_succ, List.getElem?_cons_zero, DL.atI_0, DL.atI_1, DL.atI_2, DL.atI_3, DL.atI_4, DL.atI_5, DL.atI_6, DL.atI_7, DL.ixN_0, DL.ixN_1, DL.ixN_2, DL.ixN_3, DL.oset_same, DL.tl_one, DL.tl_ofL, TL.len_tl, DL.atI_nat_, Bool.false_eq_true, Bool.not_false, Bool.not_true, if_true, if_false, decide_eq_true_eq, Bool.not_eq_true', Bool.not_eq_true, decide_eq_false_iff_not, Option.isSome_some, Option.isSome_none, reduceIte, and_true, true_and, Nat.zero_add, Nat.reduceAdd, Nat.reduceLeDiff, DL.onSome_e1, DL.onL_e1, DL.lstQ_e1, DL.lstQ_e2, DL.seqQ_e1, DL.seqQ_e2, DL.seqQ_e3, DL.seqQ_e4, DL.seqQ_e5, DL.sqlQ_e1, DL.sqlQ_e2, DL.sqlQ_e3, DL.onK_e1, DL.onT_e1, DL.dkQ_e1, DL.dkQ_e2, DL.dtQ_e1, DL.dtQ_e2, DL.findQ_e1, DL.findQ_e2, DL.findQ_e3, DL.dAdd_e1, DL.dAdd_e2, DL.dAdd_e3, DL.dAdd_e4, DL.dAdd_e5, DL.dAdd_e6, DL.dAdd_e7, DL.dI2_e1, DL.dSub_e1, DL.dCmpI_e1, DL.dEq_e1, DL.dEq_e2, DL.dEq_e3, DL.dEq_e4, DL.dEq_e5, DL.dEq_e6, DL.dEq_e7, DL.dEq_e8, DL.dEq_e9, DL.dEq_e10, DL.dEq_e11, DL.dEq_e12, DL.dEq_e13, DL.dEq_e14, DL.dEq_e15, DL.dIsN_e1, DL.isNon_e1, DL.dInS_e1, DL.dIn_e1, DL.dIn_e2, DL.dIn_e3, DL.dIn_e4, DL.dIn_e5, DL.dIn_e6, DL.dInK_e1, DL.dIx_e1, DL.dIx_e2, DL.dIx_e3, DL.dIx_e4, DL.dIx_e5, DL.dIx_e6, DL.kBl_e1, DL.kInt_e1, DL.kTru_e1, DL.kTru_e2, DL.kTru_e3, DL.kTru_e4, DL.kTru_e5, DL.kTru_e6, DL.kTru_e7, DL.kTru_e8, DL.kTru_e9, DL.kRef_e1, DL.kLst_e1, DL.kLst_e2, DL.kTup_e1, DL.kTup_e2, DL.kStr_e1, DL.kRng1_e1, DL.kRng2_e1, DL.kEnum_e1, DL.kEnum_e2, DL.kZip_e1, DL.frzC_e1, DL.frzC_e2, DL.frzC_e3, DL.dSlR_e1, DL.dSlR_e2, DL.dSlR_e3, DL.dSlR_e4, DL.dSlR_e5, DL.dLen_e1, DL.dLen_e2, DL.dLen_e3, DL.dLen_e4, DL.dLen_e5, DL.dLen_e6, DL.dInt_e1, DL.dInt_e2, DL.dInt_e3, DL.dStrI_e1, DL.dIsi_e1, DL.tyName_e1, DL.tyName_e2, DL.tyName_e3, DL.tyName_e4, DL.tyName_e5, DL.tyName_e6, DL.tyName_e7, DL.tyName_e8, DL.tyName_e9, DL.tyName_e10, DL.dApp_e1, DL.dJoin_e1, DL.dSplit_e1, DL.dgNil_e1, DL.dgCons_e1, DL.dgTup_e1, DL.dSetL_e1, DL.dSetD_e1, DL.dSetD_e2, DL.dSetD_e3, DL.dIAdd_e1, DL.dIAdd_e2, DL.dISub_e1, DL.apart_e1, DL.dUpd_e1, DL.dMulS_e1, DL.dInL_e1, DL.endLc_e1, DL.endLc_e2, DL.bindN_e1, DL.setAll_e1, DL.setAll_e2, DL.mTy_e1, DL.mTy_e2, DL.mTy_e3, DL.mTy_e4, DL.strsOf_e1, DL.strsOf_e2, DL.keyD_e1, DL.keyD_e2, DL.keysD_e1, DL.keysD_e2, DL.forW_e1, DL.forW_e2, DL.lcW_e1, DL.lcW_e2, DL.lcG_e1, DL.lcG_e2, DL.lc2W_e1, DL.lc2W_e2, DL.dPairs_e1, DL.dPairs_e2, DL.kvsOf_e1, DL.kvsOf_e2, DL.slot_e1, DL.slot_e2, DL.dwipe_e1, DL.dwipe_e2, DL.enumD_e1, DL.enumD_e2, DL.zipD_e1, DL.dstart_e1, DL.dstart_e2, DL.dstart_e3, DL.flatD_e1, DL.flatD_e2, DL.flatD_e3, DL.flatD_e4, DL.eqF_e1, DL.eqF_e2, DL.eqF_e3, DL.eqF_e4, DL.eqF_e5, DL.eqF_e6, $[$ts:term],*])
def top (i : Nat) : Stmt := PySem.Challenge.pw_wholetongue_k01_words_told.main.body.getD i (.Pass ⟨0, 0, 0, 0⟩)
structure FnAt (K : PySem.W.Frag) (mg : Str → Option Value) (x : Str) (st : Stmt) (ps : List Str) (f : Addr) (fd : FuncData) : Prop where
  fn : Fun K x x st f fd
  bi : Binds K fd ps []
  mg : mg x = some (.ref f)
theorem bb_len : bootBuiltins "len" = some (.builtin "len") := by decide +kernel
theorem bb_enumerate : bootBuiltins "enumerate" = some (.type "enumerate") := by decide +kernel
theorem bb_int : bootBuiltins "int" = some (.type "int") := by decide +kernel
theorem bb_isinstance : bootBuiltins "isinstance" = some (.builtin "isinstance") := by decide +kernel
theorem bb_tuple : bootBuiltins "tuple" = some (.type "tuple") := by decide +kernel
theorem bb_list : bootBuiltins "list" = some (.type "list") := by decide +kernel
theorem bb_bool : bootBuiltins "bool" = some (.type "bool") := by decide +kernel
theorem bb_str : bootBuiltins "str" = some (.type "str") := by decide +kernel
theorem bb_range : bootBuiltins "range" = some (.type "range") := by decide +kernel
abbrev s_run_of : Stmt := top 10
abbrev N_run_of : List Str := ["row", "at", "signs", "end"]
theorem sc_run_of : FnScope N_run_of ["row", "at", "signs"] (defScope s_run_of) := ⟨rfl, rfl, rfl, by decide +kernel, rfl, by decide +kernel, by decide +kernel⟩
abbrev s_word_at : Stmt := top 11
abbrev N_word_at : List Str := ["row", "at", "sign", "word"]
theorem sc_word_at : FnScope N_word_at ["row", "at"] (defScope s_word_at) := ⟨rfl, rfl, rfl, by decide +kernel, rfl, by decide +kernel, by decide +kernel⟩
abbrev s_words_in : Stmt := top 12
abbrev N_words_in : List Str := ["row", "number", "found", "at", "kind", "word"]
theorem sc_words_in : FnScope N_words_in ["row", "number"] (defScope s_words_in) := ⟨rfl, rfl, rfl, by decide +kernel, rfl, by decide +kernel, by decide +kernel⟩
abbrev s_word_rows : Stmt := top 13
abbrev N_word_rows : List Str := ["text", "at", "row"]
theorem sc_word_rows : FnScope N_word_rows ["text"] (defScope s_word_rows) := ⟨rfl, rfl, rfl, by decide +kernel, rfl, by decide +kernel, by decide +kernel⟩
abbrev s_words_of : Stmt := top 14
abbrev N_words_of : List Str := ["text", "row", "word"]
theorem sc_words_of : FnScope N_words_of ["text"] (defScope s_words_of) := ⟨rfl, rfl, rfl, by decide +kernel, rfl, by decide +kernel, by decide +kernel⟩
abbrev s__law_dice : Stmt := top 16
abbrev N__law_dice : List Str := ["_law_script", "_law_mixed", "_law_cell"]
theorem sc__law_dice : FnScope N__law_dice ["_law_script"] (defScope s__law_dice) := ⟨rfl, rfl, rfl, by decide +kernel, rfl, by decide +kernel, by decide +kernel⟩
abbrev s__law_next : Stmt := top 17
abbrev N__law_next : List Str := ["_law_dice_here", "_law_many", "_law_found", "_law_cell"]
theorem sc__law_next : FnScope N__law_next ["_law_dice_here", "_law_many"] (defScope s__law_next) := ⟨rfl, rfl, rfl, by decide +kernel, rfl, by decide +kernel, by decide +kernel⟩
abbrev s__law_like : Stmt := top 18
abbrev N__law_like : List Str := ["_law_found", "_law_due", "_law_k"]
theorem sc__law_like : FnScope N__law_like ["_law_found", "_law_due"] (defScope s__law_like) := ⟨rfl, rfl, rfl, by decide +kernel, rfl, by decide +kernel, by decide +kernel⟩
abbrev s__law_pick : Stmt := top 19
abbrev N__law_pick : List Str := ["_law_d", "_law_some"]
theorem sc__law_pick : FnScope N__law_pick ["_law_d", "_law_some"] (defScope s__law_pick) := ⟨rfl, rfl, rfl, by decide +kernel, rfl, by decide +kernel, by decide +kernel⟩
abbrev s__law_word : Stmt := top 20
abbrev N__law_word : List Str := ["_law_d", "_law_used", "_law_found", "_law_k"]
theorem sc__law_word : FnScope N__law_word ["_law_d", "_law_used"] (defScope s__law_word) := ⟨rfl, rfl, rfl, by decide +kernel, rfl, by decide +kernel, by decide +kernel⟩
abbrev s__law_emit : Stmt := top 21
abbrev N__law_emit : List Str := ["_law_d", "_law_w", "_law_word_here", "_law_last", "_law_some", "_law_close", "_law_gap", "_law_place", "_law_signs"]
theorem sc__law_emit : FnScope N__law_emit ["_law_d", "_law_w", "_law_word_here"] (defScope s__law_emit) := ⟨rfl, rfl, rfl, by decide +kernel, rfl, by decide +kernel, by decide +kernel⟩
abbrev s__law_line : Stmt := top 22
abbrev N__law_line : List Str := ["_law_d", "_law_w"]
theorem sc__law_line : FnScope N__law_line ["_law_d", "_law_w"] (defScope s__law_line) := ⟨rfl, rfl, rfl, by decide +kernel, rfl, by decide +kernel, by decide +kernel⟩
abbrev s_law : Stmt := top 23
abbrev N_law : List Str := ["_law_script", "_law_d", "_law_own", "_law_w", "_law_due", "_law_row", "_law_text", "_law_again", "_law_k", "_law_found", "_law_kind", "_law_word_here", "_law_signs"]
theorem sc_law : FnScope N_law ["_law_script"] (defScope s_law) := ⟨rfl, rfl, rfl, by decide +kernel, rfl, by decide +kernel, by decide +kernel⟩
structure Tx (K : PySem.W.Frag) (w : World) (mg : Str → Option Value) where
  f_run_of : Addr
  d_run_of : FuncData
  t_run_of : FnAt K mg "run_of" s_run_of ["row", "at", "signs"] f_run_of d_run_of
  f_word_at : Addr
  d_word_at : FuncData
  t_word_at : FnAt K mg "word_at" s_word_at ["row", "at"] f_word_at d_word_at
  f_words_in : Addr
  d_words_in : FuncData
  t_words_in : FnAt K mg "words_in" s_words_in ["row", "number"] f_words_in d_words_in
  f_word_rows : Addr
  d_word_rows : FuncData
  t_word_rows : FnAt K mg "word_rows" s_word_rows ["text"] f_word_rows d_word_rows
  f_words_of : Addr
  d_words_of : FuncData
  t_words_of : FnAt K mg "words_of" s_words_of ["text"] f_words_of d_words_of
  f__law_dice : Addr
  d__law_dice : FuncData
  t__law_dice : FnAt K mg "_law_dice" s__law_dice ["_law_script"] f__law_dice d__law_dice
  f__law_next : Addr
  d__law_next : FuncData
  t__law_next : FnAt K mg "_law_next" s__law_next ["_law_dice_here", "_law_many"] f__law_next d__law_next
  f__law_like : Addr
  d__law_like : FuncData
  t__law_like : FnAt K mg "_law_like" s__law_like ["_law_found", "_law_due"] f__law_like d__law_like
  f__law_pick : Addr
  d__law_pick : FuncData
  t__law_pick : FnAt K mg "_law_pick" s__law_pick ["_law_d", "_law_some"] f__law_pick d__law_pick
  f__law_word : Addr
  d__law_word : FuncData
  t__law_word : FnAt K mg "_law_word" s__law_word ["_law_d", "_law_used"] f__law_word d__law_word
  f__law_emit : Addr
  d__law_emit : FuncData
  t__law_emit : FnAt K mg "_law_emit" s__law_emit ["_law_d", "_law_w", "_law_word_here"] f__law_emit d__law_emit
  f__law_line : Addr
  d__law_line : FuncData
  t__law_line : FnAt K mg "_law_line" s__law_line ["_law_d", "_law_w"] f__law_line d__law_line
  f_law : Addr
  d_law : FuncData
  t_law : FnAt K mg "law" s_law ["_law_script"] f_law d_law
  n_len : mg "len" = none
  n_enumerate : mg "enumerate" = none
  n_int : mg "int" = none
  n_isinstance : mg "isinstance" = none
  n_tuple : mg "tuple" = none
  n_list : mg "list" = none
  n_bool : mg "bool" = none
  n_str : mg "str" = none
  n_range : mg "range" = none
  a_SIGNS : Addr
  m_SIGNS : mg "SIGNS" = some (.ref a_SIGNS)
  k_SIGNS : ∃ (o : Obj) (its : Array Value) (n : Nat), K.lookup a_SIGNS = some o ∧ o.cls = .type "tuple" ∧ o.data = .seq its n ∧ its.size ≤ sizeLine ∧ Vals [V.str "<>", V.str "<=", V.str "(", V.str ")", V.str ",", V.str ".", V.str "=", V.str "<", V.str "+", V.str "-", V.str "*", V.str "/"] its.toList
  z_LETTERS : Tok
  m_LETTERS : mg "LETTERS" = some (Value.str "abcdefghijklmnopqrstuvwxyz" z_LETTERS)
  z_FIGURES : Tok
  m_FIGURES : mg "FIGURES" = some (Value.str "0123456789" z_FIGURES)
  a_OWN : Addr
  m_OWN : mg "OWN" = some (.ref a_OWN)
  k_OWN : ∃ (es : Array DictEntry) (n : Nat), KDict K w a_OWN es n ∧ KeyList es.toList ["use", "const", "keep", "out", "def", "num", "yes", "no", "let", "if", "else", "while", "end", "give", "say", "do", "or", "and", "not", "mod"]
  z_LONG : Tok
  m_LONG : mg "LONG" = some (Value.int 6 z_LONG)
  z_REMARK : Tok
  m_REMARK : mg "REMARK" = some (Value.str "#" z_REMARK)
section
variable {P : Program} {w : World} {K : PySem.W.Frag} {mg : Str → Option Value} {base : Heap}
theorem Tx.r_SIGNS (T : Tx K w mg) (F : Hp) : Rep K F (.ref T.a_SIGNS) (.stup [.str "<>", .str "<=", .str "(", .str ")", .str ",", .str ".", .str "=", .str "<", .str "+", .str "-", .str "*", .str "/"]) := by
  obtain ⟨o, its, n, h⟩ := T.k_SIGNS
  exact .stup (.inr ⟨o, its, n, h⟩) ((.cons (.str _) (.cons (.str _) (.cons (.str _) (.cons (.str _) (.cons (.str _) (.cons (.str _) (.cons (.str _) (.cons (.str _) (.cons (.str _) (.cons (.str _) (.cons (.str _) (.cons (.str _) .nil)))))))))))))
theorem Tx.e_SIGNS (T : Tx K w mg) {X : Cx} {pos : Pos} (hK : X.K = K := by rfl) (h : X.mg = mg := by rfl) (hg : Gl X "SIGNS" := by rfl) : DE X (.Name "SIGNS" pos) (dC (.stup [.str "<>", .str "<=", .str "(", .str ")", .str ",", .str ".", .str "=", .str "<", .str "+", .str "-", .str "*", .str "/"])) := de_globR (by rw [h]; exact T.m_SIGNS) (by rw [hK]; exact T.r_SIGNS) hg
theorem Tx.e_LETTERS (T : Tx K w mg) {X : Cx} {pos : Pos} (h : X.mg = mg := by rfl) (hg : Gl X "LETTERS" := by rfl) : DE X (.Name "LETTERS" pos) (dC (.str "abcdefghijklmnopqrstuvwxyz")) := de_globS (by rw [h]; exact T.m_LETTERS) hg
theorem Tx.e_FIGURES (T : Tx K w mg) {X : Cx} {pos : Pos} (h : X.mg = mg := by rfl) (hg : Gl X "FIGURES" := by rfl) : DE X (.Name "FIGURES" pos) (dC (.str "0123456789")) := de_globS (by rw [h]; exact T.m_FIGURES) hg
theorem Tx.e_OWN (T : Tx K w mg) {X : Cx} {pos : Pos} (h : X.mg = mg := by rfl) (hg : Gl X "OWN" := by rfl) : DE X (.Name "OWN" pos) (dC (.ref T.a_OWN)) := de_globR (by rw [h]; exact T.m_OWN) (fun _ => .ref _) hg
theorem Tx.in_OWN (T : Tx K w mg) {X : Cx} (hK : X.K = K := by rfl) (hw : X.w = w := by rfl) : OpD X (compareOp .In) (dInL T.a_OWN ["use", "const", "keep", "out", "def", "num", "yes", "no", "let", "if", "else", "while", "end", "give", "say", "do", "or", "and", "not", "mod"]) := by
  obtain ⟨es, n, h1, h2⟩ := T.k_OWN
  subst hK; subst hw
  exact od_inL h1 h2
theorem Tx.e_LONG (T : Tx K w mg) {X : Cx} {pos : Pos} (h : X.mg = mg := by rfl) (hg : Gl X "LONG" := by rfl) : DE X (.Name "LONG" pos) (dC (.int 6)) := de_globI (by rw [h]; exact T.m_LONG) hg
theorem Tx.e_REMARK (T : Tx K w mg) {X : Cx} {pos : Pos} (h : X.mg = mg := by rfl) (hg : Gl X "REMARK" := by rfl) : DE X (.Name "REMARK" pos) (dC (.str "#")) := de_globS (by rw [h]; exact T.m_REMARK) hg
def sp_run_of : DSp := fun ds O Q _ => ∃ (z : Str) (a : Nat) (g : Str), ds = [.str z, .int a, .str g] ∧ a ≤ (tl z).length ∧ (tl z).length ≤ 100000 ∧ Q (.str (ofL (spanIn (tl g) ((tl z).drop a)))) O
theorem ok_run_of (T : Tx K w mg) : FnOk P w K mg base CX0 1 T.f_run_of T.d_run_of ["row", "at", "signs"] (liftSp K sp_run_of) := by
  refine DFun.ok T.t_run_of.fn sc_run_of (by decide) (by rintro _ _ _ _ ⟨_, _, _, rfl, _⟩; rfl) (fun cdv A outer s H E ds O Q ED hr h => ?_)
  have nd := sc_run_of.nd
  have hu64 := hr.units
  have hu := hu_of hr
  refine ⟨_, (dss_cons (ds_set 3 (dv 1) nd)
      (dss_cons (ds_while PassesOwn.never (dt_w (dw_and (dt_cmp od_lt (dv 3) (de_callB cd_len T.n_len bb_len (da_cons (dv 0) da_nil))) (dw_and1 (dt_cmp od_in (de_ix (dv 0) (dv 3)) (dv 2))))) (dss_one (ds_aug 3 od_iadd de_int nd)))
      (dss_one (ds_ret (de_slice (dv 0) (do_some (dv 1)) (do_some (dv 3))))))), ?_⟩
  obtain ⟨z, a, g, rfl, ha, hz, k⟩ := h
  walk_at "ev"
  refine dWhile_by (fun e : Nat => [some (.str z), some (.int a), some (.str g), some (.int (e : Int))]) (fun _ => O) (fun e => a ≤ e ∧ e ≤ (tl z).length ∧ ∀ c ∈ ((tl z).drop a).take (e - a), c ∈ tl g) (fun e => (tl z).length - e) a rfl rfl ⟨Nat.le_refl _, ha, by simp⟩ ?_
  rintro e nx ⟨h1, h2, h3⟩ hn
  walk_at "ev"
  have hl : (tl z).length ≤ sizeLine := line_of (by omega)
  have fin : (∀ c, (tl z)[e]? = some c → c ∉ tl g) → Q (.str (cutS z (some ↑a) (some ↑e))) O := fun h4 => by
    rw [cut_int (Int.natCast_nonneg _) (Int.natCast_nonneg _)]
    have := span_take h1 h2 h3 h4
    simpa [this] using k
  refine ⟨hl, ite_c (fun q => ⟨hl, ?_⟩) (fun q => ⟨hl, fin fun c hc => ?_⟩)⟩
  · have hlt : e < (tl z).length := by omega
    have e0 := List.getElem?_eq_getElem hlt
    rw [e0]
    refine ite_c (fun q2 => ?_) (fun q2 => ⟨hl, fin fun c hc => ?_⟩)
    · refine hn (e + 1) ⟨by omega, by omega, fun c hc => ?_⟩ (by omega)
      rw [show e + 1 - a = (e - a) + 1 by omega, List.take_add_one] at hc
      rcases List.mem_append.mp hc with hc | hc
      · exact h3 c hc
      · rw [List.getElem?_drop, show a + (e - a) = e by omega, e0] at hc
        simp at hc; subst hc; exact q2
    · rw [e0] at hc; cases hc; exact q2
  · rw [List.getElem?_eq_none (by omega)] at hc; cases hc
def sp_word_at : DSp := fun ds O Q _ => ∃ (z : Str) (a : Nat), ds = [.str z, .int a] ∧ a < (tl z).length ∧ (tl z).length ≤ 100000 ∧ Q (.tup [.str (wordL ((tl z).drop a)).1, .str (ofL (wordL ((tl z).drop a)).2)]) O
theorem ok_word_at (T : Tx K w mg) : FnOk P w K mg base CX0 2 T.f_word_at T.d_word_at ["row", "at"] (liftSp K sp_word_at) := by
  refine DFun.ok T.t_word_at.fn sc_word_at (by decide) (by rintro _ _ _ _ ⟨_, _, rfl, _⟩; rfl) (fun cdv A outer s H E ds O Q ED hr h => ?_)
  have nd := sc_word_at.nd
  have hu64 := hr.units
  have hu := hu_of hr
  have G_run_of := ok_run_of (P := P) (base := base) T
  have hr_run_of : Room 1 _ := hr.mono (by decide)
  refine ⟨_, (dss_cons (ds_if (dt_cmp od_in (de_ix (dv 0) (dv 1)) T.e_LETTERS) (dss_cons (ds_set 3 (de_call G_run_of hr_run_of T.t_run_of.mg T.t_run_of.fn.kp T.t_run_of.bi (da_cons (dv 0) (da_cons (dv 1) (da_cons T.e_LETTERS da_nil)))) nd)
      (dss_cons (ds_if (dt_cmp T.in_OWN (dv 3) T.e_OWN) (dss_one (ds_ret (de_tup (da_cons de_str (da_cons (dv 3) da_nil))))) dss_nil)
      (dss_one (ds_ret (de_tup (da_cons (de_if (dt_cmp od_le (de_callB cd_len T.n_len bb_len (da_cons (dv 3) da_nil)) T.e_LONG) de_str de_str) (da_cons (dv 3) da_nil))))))) dss_nil)
      (dss_cons (ds_if (dt_cmp od_in (de_ix (dv 0) (dv 1)) T.e_FIGURES) (dss_cons (ds_set 3 (de_call G_run_of hr_run_of T.t_run_of.mg T.t_run_of.fn.kp T.t_run_of.bi (da_cons (dv 0) (da_cons (dv 1) (da_cons T.e_FIGURES da_nil)))) nd)
      (dss_one (ds_ret (de_tup (da_cons (de_if (dt_w (dw_and (dt_cmp od_le (de_callB cd_len T.n_len bb_len (da_cons (dv 3) da_nil)) T.e_LONG) (dw_and1 (dt_w (dw_or (dt_cmp (od_eq hu64) (dv 3) de_str) (dw_or1 (dt_cmp (od_ne hu64) (de_ix (dv 3) de_int) de_str))))))) de_str de_str) (da_cons (dv 3) da_nil)))))) dss_nil)
      (dss_cons (ds_for PassesOwn.never rfl (di_tup T.e_SIGNS) (dg_name 2 nd) (dss_one (ds_if (dt_cmp (od_eq hu64) (de_slice (dv 0) (do_some (dv 1)) (do_some (de_op od_add (dv 1) (de_callB cd_len T.n_len bb_len (da_cons (dv 2) da_nil))))) (dv 2)) (dss_one (ds_ret (de_tup (da_cons de_str (da_cons (dv 2) da_nil))))) dss_nil)))
      (dss_one (ds_ret (de_tup (da_cons de_str (da_cons (de_ix (dv 0) (dv 1)) da_nil)))))))), ?_⟩
  obtain ⟨z, a, rfl, ha, hz, k⟩ := h
  walk_at "ev"
  have hl : (tl z).length ≤ sizeLine := line_of (by omega)
  have e0 := List.getElem?_eq_getElem ha
  have e1 : ((tl z).drop a).head? = some (tl z)[a] := by rw [List.head?_drop, e0]
  generalize (tl z)[a] = c at e0 e1
  simp only [e0, onSome_e1, hl, true_and]
  refine ite_c (fun hc => ?_) (fun hc => ?_)
  · refine ⟨z, a, _, rfl, Nat.le_of_lt ha, hz, ?_⟩
    walk_at "ev"
    have hs : (spanIn letters ((tl z).drop a)).length ≤ sizeLine := line_of (by have := span_len letters ((tl z).drop a); rw [List.length_drop] at this; omega)
    refine ite_c (fun q => ?_) (fun q => ⟨hs, ?_⟩)
    · have e := wordL_own e1 hc q; rw [e] at k; exact k
    · refine ite_c (fun q2 => ?_) (fun q2 => ?_)
      · have e := wordL_name e1 hc q (by exact_mod_cast q2); rw [e] at k; exact k
      · have e := wordL_long e1 hc q (by exact_mod_cast q2); rw [e] at k; exact k
  refine ite_c (fun hf => ?_) (fun hf => ?_)
  · refine ⟨z, a, _, rfl, Nat.le_of_lt ha, hz, ?_⟩
    walk_at "ev"
    have hs : (spanIn figs ((tl z).drop a)).length ≤ sizeLine := line_of (by have := span_len figs ((tl z).drop a); rw [List.length_drop] at this; omega)
    obtain ⟨t, et⟩ := span_ne e1 hf
    refine ⟨hs, ite_c (fun q => ite_c (fun q2 => ?_) (fun q2 => ⟨hs, ?_⟩)) (fun q => ?_)⟩
    · have e := wordL_num e1 hc hf (by exact_mod_cast q) (.inl (by have := congrArg tl q2; exact this)); rw [e] at k; exact k
    · refine onSome_of (x := c) (by show (spanIn figs ((tl z).drop a))[0]? = some c; rw [et]; rfl) ?_
      refine ite_c (fun q3 => ?_) (fun q3 => ?_)
      · have e := wordL_num e1 hc hf (by exact_mod_cast q) (.inr (by intro w; subst w; exact q3 rfl)); rw [e] at k; exact k
      · have e := wordL_nonum e1 hc hf (by
          rintro ⟨_, w | w⟩
          · exact q2 (ext_tl w)
          · have q3 := Decidable.not_not.mp q3
            have := congrArg tl q3
            exact w (List.cons.inj this).1)
        rw [e] at k; exact k
    · have e := wordL_nonum e1 hc hf (by rintro ⟨w, _⟩; exact q (by exact_mod_cast w)); rw [e] at k; exact k
  · simp only [cut_eq]
    refine chain_ok (P := fun s => Q (.tup [.str "sign", .str s]) O) (N := Q (.tup [.str "", .str ⟨#[c]⟩]) O) signs_short (fun s hs => ?_) (fun hs => ?_)
    · have e := wordL_sign e1 hc hf hs; rw [e] at k; simpa only [ofL_tl] using k
    · have e := wordL_none e1 hc hf hs; rw [e] at k; exact k
def sp_words_in : DSp := fun ds O Q _ => ∃ (z : Str) (n : Int) (ws : List Wd), ds = [.str z, .int n] ∧ (tl z).length ≤ 100000 ∧ Scan (tl z) 0 ws ∧ Q (.lst (ws.map (encW n))) O
theorem ok_words_in (T : Tx K w mg) : FnOk P w K mg base CX0 3 T.f_words_in T.d_words_in ["row", "number"] (liftSp K sp_words_in) := by
  refine DFun.ok T.t_words_in.fn sc_words_in (by decide) (by rintro _ _ _ _ ⟨_, _, _, rfl, _⟩; rfl) (fun cdv A outer s H E ds O Q ED hr h => ?_)
  have nd := sc_words_in.nd
  have hu64 := hr.units
  have hu := hu_of hr
  have G_word_at := ok_word_at (P := P) (base := base) T
  have hr_word_at : Room 2 _ := hr.mono (by decide)
  refine ⟨_, (dss_cons (ds_set 2 (de_lstO da_nil) nd)
      (dss_cons (ds_set 3 de_int nd)
      (dss_cons (ds_while PassesOwn.never (dt_w (dw_and (dt_cmp od_lt (dv 3) (de_callB cd_len T.n_len bb_len (da_cons (dv 0) da_nil))) (dw_and1 (dt_cmp (od_ne hu64) (de_ix (dv 0) (dv 3)) T.e_REMARK)))) (dss_one (ds_if (dt_cmp (od_eq hu64) (de_ix (dv 0) (dv 3)) de_str) (dss_one (ds_aug 3 od_iadd de_int nd)) (dss_cons (ds_asg (de_call G_word_at hr_word_at T.t_word_at.mg T.t_word_at.fn.kp T.t_word_at.bi (da_cons (dv 0) (da_cons (dv 3) da_nil))) (dg_tup (n := 2) rfl (dgs_cons (dg_name 4 nd) (dgs_cons (dg_name 5 nd) dgs_nil))))
      (dss_cons (ds_if (dt_cmp (od_eq hu64) (dv 4) de_str) (dss_one ds_never) dss_nil)
      (dss_cons (ds_expr (de_bm PySem.F.plainAttrs_list PySem.F.slot_list_append PySem.F.type_list_append md_append (dv 2) (da_cons (de_tup (da_cons (dv 4) (da_cons (dv 5) (da_cons (de_tup (da_cons (dv 1) (da_cons (de_op od_add (dv 3) de_int) da_nil))) da_nil)))) da_nil)))
      (dss_one (ds_aug 3 od_iadd (de_callB cd_len T.n_len bb_len (da_cons (dv 5) da_nil)) nd))))))))
      (dss_one (ds_retF (dv 2)))))), ?_⟩
  obtain ⟨z, n, ws, rfl, hz, hs, k⟩ := h
  walk_at "ev"
  have hl : (tl z).length ≤ sizeLine := line_of (by omega)
  intro p hp
  refine dWhile_by (α := Nat × List Wd × Option DV × Option DV) (fun x => [some (.str z), some (.int n), some (.ref p), some (.int (x.1 : Int)), x.2.2.1, x.2.2.2]) (fun x => oset O p (.lst (x.2.1.map (encW n)))) (fun x => (x.1 ≤ (tl z).length ∧ x.2.1.length ≤ x.1) ∧ ∃ ws', Scan ((tl z).drop x.1) x.1 ws' ∧ x.2.1 ++ ws' = ws) (fun x => (tl z).length - x.1) (0, [], none, none) rfl rfl ⟨⟨Nat.zero_le _, Nat.zero_le _⟩, ws, hs, rfl⟩ ?_
  rintro ⟨e, acc, k1, k2⟩ nx ⟨⟨h1, h1'⟩, ws', h2, h3⟩ hn
  dsimp only at h1 h1' h2 h3 hn
  walk_at "ev"
  simp only [hl, true_and, one_hash, one_blank]
  have fin : ws' = [] → Q (.lst (acc.map (encW n))) (odel (oset O p (.lst (acc.map (encW n)))) p) := by
    rintro rfl
    rw [odel_oset hp]
    rw [List.append_nil] at h3
    rw [h3]; exact k
  refine ite_c (fun q => ?_) (fun q => ?_)
  · have hlt : e < (tl z).length := by omega
    have e0 := List.getElem?_eq_getElem hlt
    rw [List.drop_eq_getElem_cons hlt] at h2
    have e2 := List.drop_eq_getElem_cons hlt
    generalize (tl z)[e] = c at e0 h2 e2
    simp only [e0, onSome_e1]
    refine ite_c (fun q1 => ite_c (fun q2 => ?_) (fun q2 => ?_)) (fun q1 => ?_)
    · subst q2
      exact hn (e + 1, acc, k1, k2) ⟨⟨hlt, by dsimp only; omega⟩, ws', scan_blank h2, h3⟩ (by dsimp only; omega)
    · obtain ⟨kd, w, ws2, h4, h5, h6, h7⟩ := scan_cons h2 q1 q2
      refine ⟨z, e, rfl, hlt, hz, ?_⟩
      rw [e2, h4]
      walk_at "ev"
      simp only [h5, if_false]
      have hb := wordL_bounds (c := c) (r := (tl z).drop (e + 1))
      rw [h4, ← e2, List.length_drop] at hb
      dsimp only at hb
      refine ⟨by rw [List.length_map]; exact lc_line (by omega), line_of (by omega), ?_⟩
      have := hn (e + w.length, acc ++ [(kd, w, e)], some (.str kd), some (.str (ofL w))) ⟨⟨by dsimp only; omega, by simp; omega⟩, ws2, by rw [← e2, List.drop_drop] at h7; exact h7, by simp [← h3, h6]⟩ (by dsimp only; omega)
      simp only [List.map_append, List.map_cons, List.map_nil, encW, Int.natCast_add] at this
      rw [oset_oset]
      exact this
    · have q1 := Decidable.not_not.mp q1
      subst q1
      exact fin (scan_hash h2)
  · rw [List.drop_eq_nil_of_le (by omega)] at h2
    exact fin (scan_nil h2)
def sp_word_rows : DSp := fun ds O Q _ => ∃ (z : Str) (rs : List Str) (wss : List (List Wd)), ds = [.str z] ∧ (tl z).length ≤ 10000000 ∧ Txt.split z (Str.ofString "\n") = rs ∧ (∀ r ∈ rs, (tl r).length ≤ 10000) ∧ rs.length ≤ 1000 ∧ ScanRows rs wss ∧ Q (.lst (encRows 0 wss)) O
theorem ok_word_rows (T : Tx K w mg) : FnOk P w K mg base CX0 4 T.f_word_rows T.d_word_rows ["text"] (liftSp K sp_word_rows) := by
  refine DFun.ok T.t_word_rows.fn sc_word_rows (by decide) (by rintro _ _ _ _ ⟨_, _, _, rfl, _⟩; rfl) (fun cdv A outer s H E ds O Q ED hr h => ?_)
  have nd := sc_word_rows.nd
  have hu64 := hr.units
  have hu := hu_of hr
  have G_words_in := ok_words_in (P := P) (base := base) T
  have hr_words_in : Room 3 _ := hr.mono (by decide)
  refine ⟨_, (dss_one (ds_ret (de_lc false (own := [("at", 1), ("row", 2)]) rfl nd  (di_enum T.n_enumerate (da_cons (de_bm PySem.F.plainAttrs_str PySem.F.slot_str_split PySem.F.type_str_split md_split (dv 0) (da_cons de_str da_nil)) da_nil)) (blkOk_by (N := N_word_rows) (sc := defScope s_word_rows) (by decide +kernel)) (tgt_N (is := [1, 2]) (by decide) rfl) (fun _ _ _ _ _ => (pg_tup rfl (pgs_cons (pg_name (i := 1) nd rfl (Or.inl rfl)) (pgs_cons (pg_name (i := 2) nd rfl (Or.inl rfl)) pgs_nil)))) (fun _ _ _ _ _ => dts_nil) (fun _ _ _ _ _ => (de_call G_words_in hr_words_in T.t_words_in.mg T.t_words_in.fn.kp T.t_words_in.bi (da_cons (dv 2) (da_cons (de_op od_add (dv 1) de_int) da_nil))))))), ?_⟩
  obtain ⟨z, rs, wss, rfl, hz, hsp, hr1, hr2, hs, k⟩ := h
  walk_at "ev"
  refine ⟨by decide +kernel, line_of (by omega), ?_⟩
  rw [hsp]
  have hl := scanRows_len hs
  refine lcW_pure _ (encRows 0 wss) [] (by rw [enumD_len, encRows_len, List.length_map, hl]) (by rw [enumD_len, List.length_map]; show 0 + _ < _; omega) (fun i x y e1 e2 R hR => ?_) k
  rw [enumD_get, List.getElem?_map] at e1
  cases e0 : rs[i]? with
  | none => rw [e0] at e1; cases e1
  | some r =>
    rw [e0] at e1
    cases e1
    obtain ⟨ws, h1, rfl⟩ := encRows_get e2
    walk_at "ev"
    refine ⟨r, _, ws, rfl, by have := hr1 r (List.mem_of_getElem? e0); omega, scanRows_get hs e0 h1, ?_⟩
    simpa using hR
def sp_words_of : DSp := fun ds O Q _ => ∃ (z : Str) (rs : List Str) (wss : List (List Wd)), ds = [.str z] ∧ (tl z).length ≤ 10000000 ∧ Txt.split z (Str.ofString "\n") = rs ∧ (∀ r ∈ rs, (tl r).length ≤ 10000) ∧ rs.length ≤ 1000 ∧ ScanRows rs wss ∧ ∀ p, O p = none → Q (.ref p) (oset O p (.lst (encAll 0 wss)))
theorem ok_words_of (T : Tx K w mg) : FnOk P w K mg base CX0 5 T.f_words_of T.d_words_of ["text"] (liftSp K sp_words_of) := by
  refine DFun.ok T.t_words_of.fn sc_words_of (by decide) (by rintro _ _ _ _ ⟨_, _, _, rfl, _⟩; rfl) (fun cdv A outer s H E ds O Q ED hr h => ?_)
  have nd := sc_words_of.nd
  have hu64 := hr.units
  have hu := hu_of hr
  have G_word_rows := ok_word_rows (P := P) (base := base) T
  have hr_word_rows : Room 4 _ := hr.mono (by decide)
  refine ⟨_, (dss_one (ds_ret (de_lc2 true (own := [("row", 1), ("word", 2)]) (vs1 := [2]) rfl nd  (di_list (de_call G_word_rows hr_word_rows T.t_word_rows.mg T.t_word_rows.fn.kp T.t_word_rows.bi (da_cons (dv 0) da_nil))) (blkOk_by (N := N_words_of) (sc := defScope s_words_of) (by decide +kernel)) (by decide) (tgt_1 (i := 1) (by decide)) (tgt_1 (i := 2) (by decide)) (fun _ _ _ _ _ => (pg_name (i := 1) nd rfl (Or.inl rfl))) (fun _ _ _ _ _ => dts_nil) (fun _ _ _ _ _ => (di_list (dv 1))) (fun _ _ _ _ _ => (pg_name (i := 2) nd rfl (Or.inl rfl))) (fun _ _ _ _ _ => dts_nil) (fun _ _ _ _ _ => (dv 2))))), ?_⟩
  obtain ⟨z, rs, wss, rfl, hz, hsp, hr1, hr2, hs, k⟩ := h
  walk_at "ev"
  refine ⟨z, rs, wss, rfl, hz, hsp, hr1, hr2, hs, ?_⟩
  walk_at "ev"
  have hwl : ∀ ws ∈ wss, ws.length ≤ 10000 := by
    intro ws hw
    obtain ⟨i, hi⟩ := List.getElem?_of_mem hw
    have hlt : i < rs.length := by rw [scanRows_len hs]; exact (List.getElem?_eq_some_iff.mp hi).1
    have := scan_len (scanRows_get hs (List.getElem?_eq_getElem hlt) hi)
    have := hr1 _ (List.getElem_mem hlt)
    omega
  have hn : wss.length ≤ 1000 := by rw [← scanRows_len hs]; exact hr2
  clear hs hsp
  have key : ∀ (wss : List (List Wd)) (n : Nat) (acc : List DV), (∀ ws ∈ wss, ws.length ≤ 10000) → acc.length + 10000 * wss.length < 16000000 → (∀ p, O p = none → Q (.ref p) (oset O p (.lst (acc ++ encAll n wss)))) →
      lc2W true (bind1 1) dYes (dILst (dVar 1)) (bind1 2) dYes (dVar 2) [2] [some (.str z), none, none] Q (encRows n wss) acc O := by
    intro wss
    induction wss with
    | nil => intro n acc _ _ h; simpa [encRows, encAll, lc2W_e1, endLc_e2] using h
    | cons ws wss ih =>
      intro n acc h1 h2 h3
      simp only [encRows]
      walk_at "ev"
      have h4 := h1 ws List.mem_cons_self
      rw [List.length_cons] at h2
      refine lcG_pure _ (ws.map (encW ((n : Int) + 1))) acc rfl (by rw [List.length_map]; omega) (fun i x y e1 e2 R hR => ?_) ?_
      · rw [e1] at e2; cases e2
        walk_at "ev"
        exact hR
      · refine ih (n + 1) _ (fun ws hw => h1 ws (List.mem_cons_of_mem _ hw)) (by rw [List.length_append, List.length_map]; omega) (fun p hp => ?_)
        have := h3 p hp
        simp only [encAll] at this
        rw [List.append_assoc]; exact this
  exact key wss 0 [] hwl (by simp; omega) k
def sp__law_dice : DSp := fun ds O Q _ => ∃ (ns : List Int), ds = [.slst (ns.map DV.int)] ∧ ns.length ≤ 63 ∧ ∀ p c, O p = none → Dice c → Q (.ref p) (oset O p c)
theorem ok__law_dice (T : Tx K w mg) : FnOk P w K mg base CX0 1 T.f__law_dice T.d__law_dice ["_law_script"] (liftSp K sp__law_dice) := by
  refine DFun.ok T.t__law_dice.fn sc__law_dice (by decide) (by rintro _ _ _ _ ⟨_, rfl, _⟩; rfl) (fun cdv A outer s H E ds O Q ED hr h => ?_)
  have nd := sc__law_dice.nd
  have hu64 := hr.units
  have hu := hu_of hr
  refine ⟨_, (dss_cons (ds_set 1 de_int nd)
      (dss_cons (ds_for PassesOwn.never rfl (di_list (dv 0)) (dg_name 2 nd) (dss_one (ds_set 1 (de_op od_mod (de_op od_add (de_op od_add (de_op od_mul (dv 1) de_int) (de_op od_mul (de_op od_mod (dv 2) de_int) de_int)) de_int) de_int) nd)))
      (dss_one (ds_ret (de_lstO (da_cons (dv 0) (da_cons de_int (da_cons (de_op od_mul (dv 1) (de_callTy cd_int T.n_int bb_int (da_cons (de_cmp od_gt (de_callB cd_len T.n_len bb_len (da_cons (dv 0) da_nil)) de_int) da_nil))) (da_cons de_int da_nil))))))))), ?_⟩
  obtain ⟨ns, rfl, hn, k⟩ := h
  walk_at "ev"
  refine forW_by (α := Int × Option DV) (fun x => [some (.slst (ns.map DV.int)), some (.int x.1), x.2]) (fun _ => O) _ (fun _ x => 0 ≤ x.1 ∧ x.1 < 2147483647) ?_ ?_ (0, none) rfl rfl ⟨by decide, by decide⟩
  · rintro i ⟨m, cl⟩ d nx e ⟨h1, h2⟩ hn2
    dsimp only at h1 h2
    rw [List.getElem?_map] at e
    cases e0 : ns[i]? with
    | none => rw [e0] at e; cases e
    | some v =>
      rw [e0] at e; cases e
      walk_at "ev"
      refine ⟨.inl ⟨by omega, by omega⟩, by decide, .inl ⟨by omega, by omega⟩, by decide, ?_⟩
      exact hn2 (_, _) ⟨Int.emod_nonneg _ (by decide), Int.emod_lt_of_pos _ (by decide)⟩
  · rintro ⟨m, cl⟩ ⟨h1, h2⟩
    dsimp only at h1 h2
    walk_at "ev"
    refine ⟨.inl ⟨by omega, by omega⟩, fun p hp => k p _ hp ?_⟩
    · refine ⟨ns, 0, _, 0, rfl, by decide, ?_, ?_, by decide, hn⟩
      · split <;> omega
      · split <;> omega
def sp__law_next : DSp := fun ds O Q _ => ∃ (a : Addr) (m : Int) (c : Cell), ds = [.ref a, .int m] ∧ O a = some c ∧ Dice c ∧ 0 < m ∧ m < 1073741824 ∧ ∀ r c', 0 ≤ r → r < m → Dice c' → Q (.int r) (oset O a c')
theorem ok__law_next (T : Tx K w mg) : FnOk P w K mg base CX0 1 T.f__law_next T.d__law_next ["_law_dice_here", "_law_many"] (liftSp K sp__law_next) := by
  refine DFun.ok T.t__law_next.fn sc__law_next (by decide) (by rintro _ _ _ _ ⟨_, _, _, rfl, _⟩; rfl) (fun cdv A outer s H E ds O Q ED hr h => ?_)
  have nd := sc__law_next.nd
  have hu64 := hr.units
  have hu := hu_of hr
  refine ⟨_, (dss_cons (ds_if (dt_cmp od_gt (de_ix (dv 0) de_int) de_int) (dss_cons (ds_set 2 (de_op od_mod (de_ix (dv 0) de_int) (dv 1)) nd)
      (dss_cons (ds_asg (de_op od_fdiv (de_ix (dv 0) de_int) (dv 1)) (dg_sub (dv 0) de_int psd_list))
      (dss_one (ds_ret (dv 2))))) dss_nil)
      (dss_cons (ds_asg (de_op od_add (de_ix (dv 0) de_int) de_int) (dg_sub (dv 0) de_int psd_list))
      (dss_cons (ds_if (dt_cmp od_le (de_ix (dv 0) de_int) (de_callB cd_len T.n_len bb_len (da_cons (de_ix (dv 0) de_int) da_nil))) (dss_cons (ds_set 3 (de_ix (de_ix (dv 0) de_int) (de_op od_sub (de_ix (dv 0) de_int) de_int)) nd)
      (dss_cons (ds_asg (de_if (dt_cmp od_ge (dv 3) (de_op od_pow de_int de_int)) (de_op od_fdiv (dv 3) (dv 1)) de_int) (dg_sub (dv 0) de_int psd_list))
      (dss_one (ds_ret (de_op od_mod (dv 3) (dv 1)))))) dss_nil)
      (dss_cons (ds_asg (de_op od_mod (de_op od_mul (de_ix (dv 0) de_int) de_int) de_int) (dg_sub (dv 0) de_int psd_list))
      (dss_one (ds_ret (de_op od_mod (de_op od_fdiv (de_ix (dv 0) de_int) de_int) (dv 1)))))))), ?_⟩
  obtain ⟨a, m, c, rfl, hO, ⟨ns, p, mx, lf, rfl, h1, h2, h3, h4, h5⟩, hm, hm2, k⟩ := h
  wp_walk using hO
  refine ite_c (fun q => ?_) (fun q => ?_)
  · exact ⟨hm, ⟨hm, hm2⟩, k _ _ (Int.emod_nonneg _ (by omega)) (Int.emod_lt_of_pos _ hm) ⟨ns, _, _, _, rfl, h1, h2, h3, Int.ediv_nonneg h4 (by omega), h5⟩⟩
  · refine ite_c (fun q2 => ?_) (fun q2 => ?_)
    · rw [List.length_map] at q2
      rw [show p + 1 - 1 = p by omega, atI_pos h1, List.getElem?_map, List.getElem?_eq_getElem (by omega)]
      generalize ns[p.toNat]'(by omega) = v
      wp_walk using Option.map_some
      refine ⟨⟨by decide, by decide, by decide⟩, ite_c (fun q3 => ?_) (fun q3 => ?_)⟩
      · have q4 : (0 : Int) ≤ v := by
          have : (0 : Int) ≤ 10 ^ Int.toNat 18 := by decide
          omega
        refine ⟨⟨hm, hm2⟩, hm, ?_⟩
        rw [oset_oset]
        exact k _ _ (Int.emod_nonneg _ (by omega)) (Int.emod_lt_of_pos _ hm) ⟨ns, _, _, _, rfl, by omega, h2, h3, Int.ediv_nonneg q4 (by omega), h5⟩
      · refine ⟨hm, ?_⟩
        rw [oset_oset]
        exact k _ _ (Int.emod_nonneg _ (by omega)) (Int.emod_lt_of_pos _ hm) ⟨ns, _, _, _, rfl, by omega, h2, h3, by decide, h5⟩
    · refine ⟨.inl ⟨by omega, by omega⟩, by decide, ⟨by decide, by decide⟩, hm, ?_⟩
      rw [oset_oset]
      exact k _ _ (Int.emod_nonneg _ (by omega)) (Int.emod_lt_of_pos _ hm) ⟨ns, _, _, _, rfl, by omega, Int.emod_nonneg _ (by decide), Int.emod_lt_of_pos _ (by decide), h4, h5⟩
def sp__law_pick : DSp := fun ds O Q _ => ∃ (a : Addr) (d : DV) (c : Cell) (xs : List DV), ds = [.ref a, d] ∧ O a = some c ∧ Dice c ∧ seqOf O d = some xs ∧ (∀ c', seqOf (oset O a c') d = some xs) ∧ 0 < xs.length ∧ xs.length < 1073741824 ∧ ∀ x ∈ xs, ∀ c', Dice c' → Q x (oset O a c')
theorem ok__law_pick (T : Tx K w mg) : FnOk P w K mg base CX0 2 T.f__law_pick T.d__law_pick ["_law_d", "_law_some"] (liftSp K sp__law_pick) := by
  refine DFun.ok T.t__law_pick.fn sc__law_pick (by decide) (by rintro _ _ _ _ ⟨_, _, _, _, rfl, _⟩; rfl) (fun cdv A outer s H E ds O Q ED hr h => ?_)
  have nd := sc__law_pick.nd
  have hu64 := hr.units
  have hu := hu_of hr
  have G__law_next := ok__law_next (P := P) (base := base) T
  have hr__law_next : Room 1 _ := hr.mono (by decide)
  refine ⟨_, (dss_one (ds_ret (de_ix (dv 1) (de_call G__law_next hr__law_next T.t__law_next.mg T.t__law_next.fn.kp T.t__law_next.bi (da_cons (dv 0) (da_cons (de_callB cd_len T.n_len bb_len (da_cons (dv 1) da_nil)) da_nil)))))), ?_⟩
  obtain ⟨a, d, c, xs, rfl, hO, hD, hs, hs', h0, h1, k⟩ := h
  walk_at "ev"
  refine seq_len hs ?_
  refine ⟨a, _, c, rfl, hO, hD, by omega, by omega, fun r c' r0 r1 hc => ?_⟩
  have hlt : r.toNat < xs.length := by omega
  refine seq_ix (hs' c') (x := xs[r.toNat]) (by rw [atI_pos r0]; exact List.getElem?_eq_getElem hlt) (k _ (List.getElem_mem _) _ hc)
def sp__law_like (n : Nat) : DSp := fun ds O Q _ => ∃ (v d1 d2 : DV) (m : Nat), ds = [d1, d2] ∧ n = m + 1 ∧ Pure m v ∧ Sees O d1 v ∧ Sees O d2 v ∧ Q (.bl true) O
theorem ok__law_like (T : Tx K w mg) : ∀ n : Nat, FnOk P w K mg base CX0 (n + 1) T.f__law_like T.d__law_like ["_law_found", "_law_due"] (liftSp K (sp__law_like n))
| 0 => fn_false (fun ds O Q E h => by obtain ⟨v, d1, d2, m, rfl, hm, h⟩ := h; cases hm)
| n + 1 => by
  have G__law_like := ok__law_like T n
  refine DFun.ok T.t__law_like.fn sc__law_like (by decide) (by rintro _ _ _ _ ⟨_, _, _, _, rfl, _⟩; rfl) (fun cdv A outer s H E ds O Q ED hr h => ?_)
  have hr__law_like : Room (n + 1) _ := hr
  have nd := sc__law_like.nd
  have hu64 := hr.units
  have hu := hu_of hr
  refine ⟨_, (dss_cons (ds_if (dt_w (dw_or (dt_val (de_callB cd_isi T.n_isinstance bb_isinstance (da_cons (dv 1) (da_cons (de_blt T.n_tuple bb_tuple) da_nil)))) (dw_or1 (dt_val (de_callB cd_isi T.n_isinstance bb_isinstance (da_cons (dv 1) (da_cons (de_blt T.n_list bb_list) da_nil))))))) (dss_cons (ds_if (dt_cmp (od_ne hu64) (de_callB cd_isi T.n_isinstance bb_isinstance (da_cons (dv 0) (da_cons (de_blt T.n_tuple bb_tuple) da_nil))) (de_callB cd_isi T.n_isinstance bb_isinstance (da_cons (dv 1) (da_cons (de_blt T.n_tuple bb_tuple) da_nil)))) (dss_one (ds_ret de_bl)) dss_nil)
      (dss_cons (ds_if (dt_w (dw_or (dt_cmp (od_ne hu64) (de_callB cd_isi T.n_isinstance bb_isinstance (da_cons (dv 0) (da_cons (de_blt T.n_list bb_list) da_nil))) (de_callB cd_isi T.n_isinstance bb_isinstance (da_cons (dv 1) (da_cons (de_blt T.n_list bb_list) da_nil)))) (dw_or1 (dt_cmp (od_ne hu64) (de_callB cd_len T.n_len bb_len (da_cons (dv 0) da_nil)) (de_callB cd_len T.n_len bb_len (da_cons (dv 1) da_nil)))))) (dss_one (ds_ret de_bl)) dss_nil)
      (dss_one (ds_ret (de_cmp (od_eq hu64) (de_lc false (own := [("_law_k", 2)]) rfl nd  (di_range1 T.n_range (da_cons (de_callB cd_len T.n_len bb_len (da_cons (dv 1) da_nil)) da_nil)) (blkOk_by (N := N__law_like) (sc := defScope s__law_like) (by decide +kernel)) (tgt_1 (i := 2) (by decide)) (fun _ _ _ _ _ => (pg_name (i := 2) nd rfl (Or.inl rfl))) (fun _ _ _ _ _ => (dts_one (dt_not (dt_val (de_call G__law_like hr__law_like T.t__law_like.mg T.t__law_like.fn.kp T.t__law_like.bi (da_cons (de_ix (dv 0) (dv 2)) (da_cons (de_ix (dv 1) (dv 2)) da_nil))))))) (fun _ _ _ _ _ => (dv 2))) (de_lstF da_nil)))))) dss_nil)
      (dss_cons (ds_if (dt_cmp (od_ne hu64) (de_callB cd_isi T.n_isinstance bb_isinstance (da_cons (dv 0) (da_cons (de_blt T.n_bool bb_bool) da_nil))) (de_callB cd_isi T.n_isinstance bb_isinstance (da_cons (dv 1) (da_cons (de_blt T.n_bool bb_bool) da_nil)))) (dss_one (ds_ret de_bl)) dss_nil)
      (dss_cons (ds_if (dt_w (dw_or (dt_cmp (od_ne hu64) (de_callB cd_isi T.n_isinstance bb_isinstance (da_cons (dv 0) (da_cons (de_blt T.n_int bb_int) da_nil))) (de_callB cd_isi T.n_isinstance bb_isinstance (da_cons (dv 1) (da_cons (de_blt T.n_int bb_int) da_nil)))) (dw_or1 (dt_cmp (od_ne hu64) (de_callB cd_isi T.n_isinstance bb_isinstance (da_cons (dv 0) (da_cons (de_blt T.n_str bb_str) da_nil))) (de_callB cd_isi T.n_isinstance bb_isinstance (da_cons (dv 1) (da_cons (de_blt T.n_str bb_str) da_nil))))))) (dss_one (ds_ret de_bl)) dss_nil)
      (dss_one (ds_ret (de_cmp (od_eq hu64) (dv 0) (dv 1))))))), ?_⟩
  obtain ⟨v, d1, d2, m, rfl, hm, hv, h1, h2, k⟩ := h
  cases hm
  walk_at "ev"
  cases hv with
  | non =>
    have e1 := h1.flat (by rintro _ e; cases e)
    have e2 := h2.flat (by rintro _ e; cases e)
    subst e1; subst e2
    wp_walk using mem_tuple, mem_list, mem_bool, mem_int, mem_str, subTy, not_true, not_false_eq_true, DL.dEqP, DL.toPy
    exact ite_f (by decide) (ite_f (by decide) ⟨rfl, rfl, k⟩)
  | bl b =>
    have e1 := h1.flat (by rintro _ e; cases e)
    have e2 := h2.flat (by rintro _ e; cases e)
    subst e1; subst e2
    wp_walk using mem_tuple, mem_list, mem_bool, mem_int, mem_str, subTy, not_true, not_false_eq_true
    exact ite_f (by decide) (ite_f (by decide) k)
  | int b =>
    have e1 := h1.flat (by rintro _ e; cases e)
    have e2 := h2.flat (by rintro _ e; cases e)
    subst e1; subst e2
    wp_walk using mem_tuple, mem_list, mem_bool, mem_int, mem_str, subTy, not_true, not_false_eq_true
    exact ite_f (by decide) (ite_f (by decide) k)
  | str b =>
    have e1 := h1.flat (by rintro _ e; cases e)
    have e2 := h2.flat (by rintro _ e; cases e)
    subst e1; subst e2
    wp_walk using mem_tuple, mem_list, mem_bool, mem_int, mem_str, subTy, not_true, not_false_eq_true
    exact ite_f (by decide) (ite_f (by decide) k)
  | tup hx hl =>
    obtain ⟨q1, t1⟩ := Sees.seq.2 h1
    obtain ⟨q2, t2⟩ := Sees.seq.2 h2
    wp_walk using mem_tuple, mem_list, mem_bool, mem_int, mem_str, subTy, not_true, not_false_eq_true, t1, t2
    refine ite_t (by decide) (seq_len q1 (seq_len q2 ?_))
    wp_walk using not_true, decide_true, Bool.not_true
    refine seq_len q2 ?_
    wp_walk using not_true
    refine ⟨⟨by omega, by omega⟩, ?_⟩
    refine like_all (fun j hj K hK => ?_) (by walk_at "ev"; exact ⟨rfl, rfl, k⟩)
    rw [Int.toNat_natCast] at hj
    walk_at "ev"
    have hg := (List.getElem?_eq_getElem hj)
    refine seq_ix q1 (by rw [atI_nat_]; exact hg) (seq_ix q2 (by rw [atI_nat_]; exact hg) ?_)
    refine ⟨_, _, _, _, rfl, rfl, hx _ (List.getElem_mem hj), .inl rfl, .inl rfl, ?_⟩
    walk_at "ev"
    exact hK
  | lst hx hl =>
    obtain ⟨q1, t1⟩ := Sees.seq.1 h1
    obtain ⟨q2, t2⟩ := Sees.seq.1 h2
    wp_walk using mem_tuple, mem_list, mem_bool, mem_int, mem_str, subTy, not_true, not_false_eq_true, t1, t2
    refine ite_f (by decide) (ite_t (by decide) (seq_len q1 (seq_len q2 ?_)))
    wp_walk using not_true, decide_true, Bool.not_true
    refine seq_len q2 ?_
    wp_walk using not_true
    refine ⟨⟨by omega, by omega⟩, ?_⟩
    refine like_all (fun j hj K hK => ?_) (by walk_at "ev"; exact ⟨rfl, rfl, k⟩)
    rw [Int.toNat_natCast] at hj
    walk_at "ev"
    have hg := (List.getElem?_eq_getElem hj)
    refine seq_ix q1 (by rw [atI_nat_]; exact hg) (seq_ix q2 (by rw [atI_nat_]; exact hg) ?_)
    refine ⟨_, _, _, _, rfl, rfl, hx _ (List.getElem_mem hj), .inl rfl, .inl rfl, ?_⟩
    walk_at "ev"
    exact hK
def sp__law_word : DSp := fun ds O Q _ => ∃ (a b : Addr) (c : Cell), ds = [.ref a, .ref b] ∧ a ≠ b ∧ O a = some c ∧ Dice c ∧ O b = some (.lst []) ∧ ∀ w c' O', IsName w → Dice c' → O' a = some c' → O' b = some (.lst [.str w]) → Fr O O' [a, b] → Q (.str w) O'
theorem ok__law_word (T : Tx K w mg) : FnOk P w K mg base CX0 3 T.f__law_word T.d__law_word ["_law_d", "_law_used"] (liftSp K sp__law_word) := by
  refine DFun.ok T.t__law_word.fn sc__law_word (by decide) (by rintro _ _ _ _ ⟨_, _, _, rfl, _⟩; rfl) (fun cdv A outer s H E ds O Q ED hr h => ?_)
  have nd := sc__law_word.nd
  have hu64 := hr.units
  have hu := hu_of hr
  have G__law_next := ok__law_next (P := P) (base := base) T
  have hr__law_next : Room 1 _ := hr.mono (by decide)
  refine ⟨_, (dss_cons (ds_set 2 (de_ix de_str (de_call G__law_next hr__law_next T.t__law_next.mg T.t__law_next.fn.kp T.t__law_next.bi (da_cons (dv 0) (da_cons de_int da_nil)))) nd)
      (dss_cons (ds_set 2 (de_op od_add (dv 2) (de_bm PySem.F.plainAttrs_str PySem.F.slot_str_join PySem.F.type_str_join md_join de_str (da_cons (de_lc false (own := [("_law_k", 3)]) rfl nd  (di_range1 T.n_range (da_cons (de_op od_fdiv (de_call G__law_next hr__law_next T.t__law_next.mg T.t__law_next.fn.kp T.t__law_next.bi (da_cons (dv 0) (da_cons de_int da_nil))) de_int) da_nil)) (blkOk_by (N := N__law_word) (sc := defScope s__law_word) (by decide +kernel)) (tgt_1 (i := 3) (by decide)) (fun _ _ _ _ _ => (pg_name (i := 3) nd rfl (Or.inl rfl))) (fun _ _ _ _ _ => dts_nil) (fun _ _ _ _ _ => (de_ix de_str (de_call G__law_next hr__law_next T.t__law_next.mg T.t__law_next.fn.kp T.t__law_next.bi (da_cons (dv 0) (da_cons de_int da_nil)))))) da_nil))) nd)
      (dss_cons (ds_set 3 de_int nd)
      (dss_cons (ds_while PassesOwn.never (dt_cmp od_in (dv 2) (dv 1)) (dss_cons (ds_set 2 (de_op od_add (de_ix de_str (de_op od_mod (dv 3) de_int)) (de_op od_mulS (de_ix de_str (de_op od_mod (de_op od_fdiv (dv 3) de_int) de_int)) (de_op od_add de_int (de_op od_fdiv (dv 3) de_int)))) nd)
      (dss_one (ds_set 3 (de_op od_add (dv 3) de_int) nd))))
      (dss_cons (ds_expr (de_bm PySem.F.plainAttrs_list PySem.F.slot_list_append PySem.F.type_list_append md_append (dv 1) (da_cons (dv 2) da_nil)))
      (dss_one (ds_ret (dv 2)))))))), ?_⟩
  obtain ⟨a, b, c, rfl, hab, hO, hD, hb, k⟩ := h
  walk_at "ev"
  refine ⟨a, _, c, rfl, hO, hD, by omega, by omega, fun r1 c1 h1 h2 hD1 => ?_⟩
  walk_at "ev"
  have g1 : (tl (Str.ofString "bfhjpqrtvxz"))[r1.toNat]? = some ((tl (Str.ofString "bfhjpqrtvxz"))[r1.toNat]'(by show _ < 11; omega)) := List.getElem?_eq_getElem _
  have m1 := List.getElem_mem (l := tl (Str.ofString "bfhjpqrtvxz")) (n := r1.toNat) (by show _ < 11; omega)
  generalize (tl (Str.ofString "bfhjpqrtvxz"))[r1.toNat]'(by show _ < 11; omega) = ch at g1 m1
  rw [atI_pos h1, g1]
  refine ⟨line_of (by decide), ?_⟩
  simp only [onSome_e1]
  refine ⟨a, 10, c1, rfl, oset_same, hD1, by omega, by omega, fun r2 c2 h3 h4 hD2 => ?_⟩
  rw [oset_oset]
  walk_at "ev"
  refine ⟨⟨by decide, by decide⟩, ⟨by omega, by omega⟩, ?_⟩
  refine lcW_by (fun acc O' => ∃ c' l, O' = oset O a c' ∧ Dice c' ∧ acc = l.map (fun x => DV.str ⟨#[x]⟩) ∧ ∀ x ∈ l, x ∈ tl (Str.ofString "abdefilmnostuwy")) _ [] _ ⟨c2, [], rfl, hD2, rfl, by simp⟩ (by rw [List.length_map, List.length_range]; show 0 + _ < _; omega) ?_ ?_
  · rintro x hx acc O' K ⟨c', l, rfl, hD', rfl, hl⟩ hK
    obtain ⟨j, hj, rfl⟩ := List.mem_map.mp hx
    walk_at "ev"
    refine ⟨a, 15, c', rfl, oset_same, hD', by omega, by omega, fun r3 c3 h5 h6 hD3 => ?_⟩
    rw [oset_oset]
    walk_at "ev"
    have g1 : (tl (Str.ofString "abdefilmnostuwy"))[r3.toNat]? = some ((tl (Str.ofString "abdefilmnostuwy"))[r3.toNat]'(by show _ < 15; omega)) := List.getElem?_eq_getElem _
    have m1 := List.getElem_mem (l := tl (Str.ofString "abdefilmnostuwy")) (n := r3.toNat) (by show _ < 15; omega)
    generalize (tl (Str.ofString "abdefilmnostuwy"))[r3.toNat]'(by show _ < 15; omega) = ch at g1 m1
    rw [atI_pos h5, g1]
    refine ⟨line_of (by decide), ?_⟩
    simp only [onSome_e1]
    refine hK _ _ ⟨c3, l ++ [ch], rfl, hD3, by rw [List.map_append]; rfl, fun x hx => ?_⟩
    rcases List.mem_append.mp hx with hx | hx
    · exact hl x hx
    · simp at hx; subst hx; exact m1
  · rintro acc O' ⟨c', l, rfl, hD', rfl, hl⟩ hlen
    rw [List.length_map, List.length_map, List.length_range] at hlen
    have hl2 : l.length ≤ 2 := by rw [hlen]; show 0 + _ ≤ _; omega
    have hb' : oset O a c' b = some (.lst []) := by rw [oset_ne (Ne.symm hab)]; exact hb
    wp_walk using strsOf_map, join_chars, sum_ones, List.length_map
    refine ⟨by show l.length + l.length * 0 ≤ _; omega, line_of (by omega), ?_⟩
    refine dWhile_by (fun _ : Unit => [some (.ref a), some (.ref b), some (.str (⟨#[ch]⟩ ++ ofL l)), some (.int 0)]) (fun _ => oset O a c') (fun _ => True) (fun _ => 0) () rfl rfl trivial ?_
    rintro _ nx _ hn
    wp_walk using hb', inD, List.any_nil
    refine ⟨rfl, lc_line (by decide), ?_⟩
    exact k (⟨#[ch]⟩ ++ ofL l) c' (oset (oset O a c') b (.lst [.str (⟨#[ch]⟩ ++ ofL l)])) ⟨ch, l, by rw [tl_append]; rfl, m1, hl, hl2⟩ hD' (by rw [oset_ne hab, oset_same]) (by rw [oset_same]) (fun b' h1 h2 => by rw [oset_ne (fun e => h1 (by simp [e])), oset_ne (fun e => h1 (by simp [e]))])
def sp__law_emit : DSp := fun ds O Q _ => ∃ (a w rl : Addr) (c : Cell) (rows : List Str) (row last word : Str), ds = [.ref a, .ref w, .str word] ∧ a ≠ w ∧ rl ≠ a ∧ rl ≠ w ∧ O a = some c ∧ Dice c ∧ O rl = some (.lst (rows.map DV.str)) ∧ O w = some (WCell rl row last) ∧ tl word ≠ [] ∧ (tl word).length ≤ 100 ∧ (tl last).length ≤ 100 ∧ (tl row).length ≤ 10000 ∧ ∀ (gap : Nat) c' O', gap ≤ 3 → (Glues last word → 1 ≤ gap) → Dice c' → O' a = some c' → O' w = some (WCell rl (ofL (tl row ++ List.replicate gap 32 ++ tl word)) word) → Fr O O' [a, w] → Q (.tup [.int (rows.length + 1), .int ((tl row).length + gap + 1)]) O'
theorem ok__law_emit (T : Tx K w mg) : FnOk P w K mg base CX0 3 T.f__law_emit T.d__law_emit ["_law_d", "_law_w", "_law_word_here"] (liftSp K sp__law_emit) := by
  refine DFun.ok T.t__law_emit.fn sc__law_emit (by decide) (by rintro _ _ _ _ ⟨_, _, _, _, _, _, _, _, rfl, _⟩; rfl) (fun cdv A outer s H E ds O Q ED hr h => ?_)
  have nd := sc__law_emit.nd
  have hu64 := hr.units
  have hu := hu_of hr
  have G__law_next := ok__law_next (P := P) (base := base) T
  have hr__law_next : Room 1 _ := hr.mono (by decide)
  refine ⟨_, (dss_cons (ds_asg (de_tup (da_cons (de_dix hu (dv 1) de_str) (da_cons (de_lstF (da_cons de_str (da_cons de_str da_nil))) da_nil))) (dg_tup (n := 2) rfl (dgs_cons (dg_name 3 nd) (dgs_cons (dg_name 4 nd) dgs_nil))))
      (dss_cons (ds_set 5 (de_cmp (od_ne hu64) (de_lc false (own := [("_law_signs", 8)]) rfl nd  (di_list (dv 4)) (blkOk_by (N := N__law_emit) (sc := defScope s__law_emit) (by decide +kernel)) (tgt_1 (i := 8) (by decide)) (fun _ _ _ _ _ => (pg_name (i := 8) nd rfl (Or.inl rfl))) (fun _ _ _ _ _ => (dts_one (dt_w (dw_and (dt_cmp (od_ne hu64) (dv 3) de_str) (dw_and (dt_cmp od_in (de_ix (dv 3) (de_neg de_int)) (dv 8)) (dw_and1 (dt_cmp od_in (de_ix (dv 2) de_int) (dv 8)))))))) (fun _ _ _ _ _ => de_int)) (de_lstF da_nil)) nd)
      (dss_cons (ds_set 5 (de_callTy cd_int T.n_int bb_int (da_cons (de_or (dv 5) (de_one (de_and (de_cmp (od_eq hu64) (dv 3) de_str) (de_one (de_cmp od_in (de_ix (dv 2) de_int) de_str))))) da_nil)) nd)
      (dss_cons (ds_set 6 (de_if (dt_cmp (od_ne hu64) (dv 3) de_str) (de_ix (de_lstF (da_cons de_int (da_cons de_int (da_cons de_int (da_cons (dv 5) (da_cons (de_op od_add (dv 5) (de_call G__law_next hr__law_next T.t__law_next.mg T.t__law_next.fn.kp T.t__law_next.bi (da_cons (dv 0) (da_cons de_int da_nil)))) da_nil)))))) (de_call G__law_next hr__law_next T.t__law_next.mg T.t__law_next.fn.kp T.t__law_next.bi (da_cons (dv 0) (da_cons de_int da_nil)))) (de_op od_fdiv (de_call G__law_next hr__law_next T.t__law_next.mg T.t__law_next.fn.kp T.t__law_next.bi (da_cons (dv 0) (da_cons de_int da_nil))) de_int)) nd)
      (dss_cons (ds_set 7 (de_tup (da_cons (de_op od_add (de_callB cd_len T.n_len bb_len (da_cons (de_dix hu (dv 1) de_str) da_nil)) de_int) (da_cons (de_op od_add (de_op od_add (de_callB cd_len T.n_len bb_len (da_cons (de_dix hu (dv 1) de_str) da_nil)) (dv 6)) de_int) da_nil))) nd)
      (dss_cons (ds_expr (de_bm PySem.F.plainAttrs_dict PySem.F.slot_dict_update PySem.F.type_dict_update (md_update hu) (dv 1) (da_cons (de_disp (dpp_cons de_str (de_op od_add (de_op od_add (de_dix hu (dv 1) de_str) (de_op od_mulS de_str (dv 6))) (dv 2)) (dpp_cons de_str (dv 2) dpp_nil))) da_nil)))
      (dss_one (ds_ret (dv 7))))))))), ?_⟩
  obtain ⟨a, w, rl, c, rows, row, last, word, rfl, haw, hra, hrw, hO, hD, hrl, hw, hw0, hw1, hl1, hr1, k⟩ := h
  obtain ⟨y, wr, hy⟩ : ∃ y wr, tl word = y :: wr := List.exists_cons_of_ne_nil hw0
  refine dSeq_mid3 (fun S' O' => O' = O ∧ ∃ n : Int, (n = 0 ∨ n = 1) ∧ (Glues last word → n = 1) ∧ ∃ z, S' = [some (.ref a), some (.ref w), some (.str word), some (.str last), z, some (.int n), none, none, none]) (fun R hR => ?_) ?_
  · by_cases hl0 : last = ""
    · subst hl0
      have ne : ¬ (Str.ofString "" = Str.ofString "<") := by decide
      wp_walk using hw, WCell, wk_last, not_true, List.nil_append, dEqP_nil0, ne
      exact hR _ _ ⟨rfl, 0, .inl rfl, fun g => (by obtain ⟨x, y, h, _⟩ := g; cases h), _, rfl⟩
    · have hl2 : tl last ≠ [] := fun e => hl0 (ext_tl e)
      obtain ⟨x, hx⟩ : ∃ x, (tl last).getLast? = some x := by
        cases e : (tl last).getLast? with
        | none => exact absurd (List.getLast?_eq_none_iff.mp e) hl2
        | some x => exact ⟨x, rfl⟩
      have hx2 : atI (tl last) (-1) = some x := by rw [atI_neg1 hl2]; exact hx
      have hll : (tl last).length ≤ sizeLine := line_of (by omega)
      have hwl : (y :: wr).length ≤ sizeLine := line_of (by rw [← hy]; omega)
      rw [List.length_cons] at hwl
      have n0 : (0 : Nat) < 16000000 := by decide
      have n1 : (1 : Nat) < 16000000 := by decide
      have gl : ∀ {n : Int}, ((x ∈ lets ∧ y ∈ lets) ∨ (x ∈ nums ∧ y ∈ nums) ∨ (last = "<" ∧ y ∈ tl (Str.ofString "=>")) → n = 1) → Glues last word → n = 1 := by
        rintro n h ⟨x', y', e1, e2, e3⟩
        rw [hx] at e1; cases e1
        rw [hy] at e2; cases e2
        exact h e3
      by_cases q1 : x ∈ tl (Str.ofString "abcdefghijklmnopqrstuvwxyz") <;> by_cases q2 : y ∈ tl (Str.ofString "abcdefghijklmnopqrstuvwxyz") <;> by_cases q3 : x ∈ tl (Str.ofString "0123456789") <;> by_cases q4 : y ∈ tl (Str.ofString "0123456789") <;> rcases Classical.propComplete (last = Str.ofString "<") with q5 | q5 <;>
        wp_walk using hw, hy, WCell, wk_last, hl0, not_false_eq_true, hll, hwl, hx2, q1, q2, q3, q4, q5, n0, n1, List.nil_append, List.cons_append, dEqP_nil0, dEqP_nil1, dEqP_nil2 <;>
        first
          | exact hR _ _ ⟨rfl, 1, .inr rfl, fun _ => rfl, _, rfl⟩
          | exact hR _ _ ⟨rfl, 0, .inl rfl, gl (by simp [q1, q2, q3, q4, q5]), _, rfl⟩
          | exact hR _ _ ⟨rfl, _, by split <;> simp, gl (by simp [q1, q2, q3, q4, q5]), _, rfl⟩
  rintro S' O' ⟨rfl, n, hn, hg, z, rfl⟩
  refine dSeq_mid (fun S' O2 => ∃ (g : Int) (c' : Cell), 0 ≤ g ∧ g ≤ 3 ∧ (Glues last word → 1 ≤ g) ∧ Dice c' ∧ O2 = oset O' a c' ∧ S' = [some (.ref a), some (.ref w), some (.str word), some (.str last), z, some (.int n), some (.int g), none, none]) (fun R hR => ?_) ?_
  · walk_at "ev"
    refine ite_c (fun hl0 => ?_) (fun hl0 => ?_)
    · refine ⟨a, 3, c, rfl, hO, hD, by omega, by omega, fun r1 c1 h1 h2 hD1 => ?_⟩
      walk_at "ev"
      refine ⟨a, 5, c1, rfl, oset_same, hD1, by omega, by omega, fun r2 c2 h3 h4 hD2 => ?_⟩
      rw [oset_oset]
      have e : r2 = 0 ∨ r2 = 1 ∨ r2 = 2 ∨ r2 = 3 ∨ r2 = 4 := by omega
      rcases e with rfl | rfl | rfl | rfl | rfl <;> walk_at "ev" <;> refine hR _ _ ⟨_, c2, ?_, ?_, fun g => ?_, hD2, rfl, rfl⟩ <;> first | omega | (have := hg g; omega)
    · refine ⟨a, 4, c, rfl, hO, hD, by omega, by omega, fun r1 c1 h1 h2 hD1 => ?_⟩
      walk_at "ev"
      refine ⟨⟨by decide, by decide⟩, hR _ _ ⟨_, c1, ?_, ?_, fun g => ?_, hD1, rfl, rfl⟩⟩
      · omega
      · omega
      · have := Decidable.not_not.mp hl0
        subst this
        obtain ⟨x, y, h, _⟩ := g; cases h
  rintro S' O2 ⟨g, c', h1, h2, h3, hD', rfl, rfl⟩
  have hw2 : oset O' a c' w = some (WCell rl row last) := by rw [oset_ne (Ne.symm haw)]; exact hw
  have hr2 : oset O' a c' rl = some (.lst (rows.map DV.str)) := by rw [oset_ne hra]; exact hrl
  wp_walk using hw2, hr2, WCell, wk_rows, wk_row, wk_last
  have hrep : (tl (repS (Str.ofString " ") g)).length = g.toNat := by rw [repS_sp, tl_ofL, List.length_replicate]
  refine ⟨line_of (by omega), ⟨by omega, by omega, by decide⟩, line_of (by rw [hrep]; omega), line_of (by rw [tl_append, List.length_append, hrep]; omega), fun p hp => ?_⟩
  have n1 := ne_of hw2 hp
  have n2 := ne_of (oset_same (O := O') (a := a) (c := c')) hp
  wp_walk using oset_ne n1, hw2, WCell, wk_upd, wk_len, wk_len2
  refine ⟨n1, ?_⟩
  rw [List.length_map]
  have := k g.toNat c' (oset (oset (oset O' a c') p (Cell.dK (dmerge [] [(Sum.inr (Str.ofString "row"), DV.str (row ++ repS (Str.ofString " ") g ++ word)), (Sum.inr (Str.ofString "last"), DV.str word)]))) w (Cell.dK (WK rl (row ++ repS (Str.ofString " ") g ++ word) word))) (by omega) (fun q => by have := h3 q; omega) hD' (by rw [oset_ne haw, oset_ne n2, oset_same]) (by rw [oset_same, app_ofL, app_ofL, tl_ofL, repS_sp, tl_ofL]; rfl) (fun b hb ho => by
    rw [oset_ne (fun e => hb (by simp [e])), oset_ne ?_, oset_ne (fun e => hb (by simp [e]))]
    rintro rfl
    rw [oset_ne (fun e => hb (by simp [e]))] at hp
    exact ho hp)
  rw [show ((g.toNat : Nat) : Int) = g by omega] at this
  exact this
def sp__law_line : DSp := fun ds O Q _ => ∃ (a w rl : Addr) (c : Cell) (rows : List Str) (row last : Str), ds = [.ref a, .ref w] ∧ a ≠ w ∧ rl ≠ a ∧ rl ≠ w ∧ O a = some c ∧ Dice c ∧ O rl = some (.lst (rows.map DV.str)) ∧ O w = some (WCell rl row last) ∧ (tl row).length ≤ 10000 ∧ rows.length ≤ 10000 ∧ ∀ (t : Str) (more : List Str) c' O', Tail t → (∀ r ∈ more, Spare r) → more.length ≤ 1 → Dice c' → O' a = some c' → O' rl = some (.lst ((rows ++ [ofL (tl row ++ tl t)] ++ more).map DV.str)) → O' w = some (WCell rl ⟨#[]⟩ ⟨#[]⟩) → Fr O O' [a, rl, w] → Q .non O'
theorem ok__law_line (T : Tx K w mg) : FnOk P w K mg base CX0 3 T.f__law_line T.d__law_line ["_law_d", "_law_w"] (liftSp K sp__law_line) := by
  refine DFun.ok T.t__law_line.fn sc__law_line (by decide) (by rintro _ _ _ _ ⟨_, _, _, _, _, _, _, rfl, _⟩; rfl) (fun cdv A outer s H E ds O Q ED hr h => ?_)
  have nd := sc__law_line.nd
  have hu64 := hr.units
  have hu := hu_of hr
  have G__law_pick := ok__law_pick (P := P) (base := base) T
  have hr__law_pick : Room 2 _ := hr.mono (by decide)
  have G__law_next := ok__law_next (P := P) (base := base) T
  have hr__law_next : Room 1 _ := hr.mono (by decide)
  refine ⟨_, (dss_cons (ds_expr (de_bm PySem.F.plainAttrs_list PySem.F.slot_list_append PySem.F.type_list_append md_append (de_dix hu (dv 1) de_str) (da_cons (de_op od_add (de_dix hu (dv 1) de_str) (de_call G__law_pick hr__law_pick T.t__law_pick.mg T.t__law_pick.fn.kp T.t__law_pick.bi (da_cons (dv 0) (da_cons (de_lstF (da_cons de_str (da_cons de_str (da_cons de_str (da_cons de_str (da_cons de_str da_nil)))))) da_nil)))) da_nil)))
      (dss_cons (ds_if (dt_w (dw_and (dt_cmp (od_eq hu64) (de_call G__law_next hr__law_next T.t__law_next.mg T.t__law_next.fn.kp T.t__law_next.bi (da_cons (dv 0) (da_cons de_int da_nil))) de_int) (dw_and1 (dt_cmp od_lt (de_callB cd_len T.n_len bb_len (da_cons (de_dix hu (dv 1) de_str) da_nil)) de_int)))) (dss_one (ds_expr (de_bm PySem.F.plainAttrs_list PySem.F.slot_list_append PySem.F.type_list_append md_append (de_dix hu (dv 1) de_str) (da_cons (de_ix (de_lstF (da_cons de_str (da_cons de_str (da_cons de_str da_nil)))) (de_call G__law_next hr__law_next T.t__law_next.mg T.t__law_next.fn.kp T.t__law_next.bi (da_cons (dv 0) (da_cons de_int da_nil)))) da_nil)))) dss_nil)
      (dss_one (ds_expr (de_bm PySem.F.plainAttrs_dict PySem.F.slot_dict_update PySem.F.type_dict_update (md_update hu) (dv 1) (da_cons (de_disp (dpp_cons de_str de_str (dpp_cons de_str de_str dpp_nil))) da_nil)))))), ?_⟩
  obtain ⟨a, w, rl, c, rows, row, last, rfl, haw, hra, hrw, hO, hD, hrl, hw, hr1, hr2, k⟩ := h
  refine dSeq_mid2 (fun S' O' => S' = [some (.ref a), some (.ref w)] ∧ ∃ t more c', Tail t ∧ (∀ r ∈ more, Spare r) ∧ more.length ≤ 1 ∧ Dice c' ∧ O' = oset (oset O a c') rl (.lst ((rows ++ [ofL (tl row ++ tl t)] ++ more).map DV.str))) (fun R hR => ?_) ?_
  · wp_walk using hw, WCell, hrl, wk_rows, wk_row
    refine ⟨a, _, c, _, rfl, hO, hD, rfl, fun _ => rfl, ?_, ?_, ?_⟩
    · decide
    · decide
    intro x hx c1 hD1
    have hx : ∃ t, x = .str t ∧ Tail t ∧ (tl t).length ≤ 8 := by
      simp only [List.mem_cons, List.not_mem_nil, or_false] at hx
      rcases hx with rfl | rfl | rfl | rfl | rfl
      · exact ⟨_, rfl, .inl rfl, by decide⟩
      · exact ⟨_, rfl, .inl rfl, by decide⟩
      · exact ⟨_, rfl, .inl rfl, by decide⟩
      · exact ⟨_, rfl, .inr (.inl rfl), by decide⟩
      · exact ⟨_, rfl, .inr (.inr rfl), by decide⟩
    obtain ⟨t, rfl, ht, htl⟩ := hx
    have hr1' : oset O a c1 rl = some (.lst (rows.map DV.str)) := by rw [oset_ne hra]; exact hrl
    wp_walk using hr1', List.length_map
    refine ⟨line_of (by omega), lc_line (by omega), ?_⟩
    refine ⟨a, 8, c1, rfl, by rw [oset_ne (Ne.symm hra), oset_same], hD1, by omega, by omega, fun r2 c2 h3 h4 hD2 => ?_⟩
    have e0 : oset (oset (oset O a c1) rl (.lst (rows.map DV.str ++ [.str (row ++ t)]))) a c2 = oset (oset O a c2) rl (.lst ((rows ++ [ofL (tl row ++ tl t)]).map DV.str)) := by
      rw [oset_comm (Ne.symm hra), oset_oset, oset_comm hra, app_ofL, List.map_append]; rfl
    rw [e0]
    have fin : R [some (.ref a), some (.ref w)] (oset (oset O a c2) rl (.lst ((rows ++ [ofL (tl row ++ tl t)]).map DV.str))) :=
      hR _ _ ⟨rfl, t, [], c2, ht, by simp, by simp, hD2, by rw [List.append_nil]⟩
    have hw3 : oset (oset O a c2) rl (.lst ((rows ++ [ofL (tl row ++ tl t)]).map DV.str)) w = some (.dK (WK rl row last)) := by rw [oset_ne (Ne.symm hrw), oset_ne (Ne.symm haw)]; exact hw
    wp_walk using hw3, wk_rows
    refine ite_c (fun q => ite_c (fun q2 => ?_) (fun q2 => fin)) (fun q => fin)
    refine ⟨a, 3, c2, rfl, by rw [oset_ne (Ne.symm hra), oset_same], hD2, by omega, by omega, fun r3 c3 h5 h6 hD3 => ?_⟩
    rw [oset_comm (Ne.symm hra), oset_oset, oset_comm hra]
    have fin2 : ∀ z : Str, Spare z → R [some (.ref a), some (.ref w)] (oset (oset O a c3) rl (.lst ((rows ++ [ofL (tl row ++ tl t)]).map DV.str ++ [.str z]))) := fun z hz =>
      hR _ _ ⟨rfl, t, [z], c3, ht, by simpa using hz, by simp, hD3, by rw [List.map_append (l₂ := [z])]; rfl⟩
    have e3 : r3 = 0 ∨ r3 = 1 ∨ r3 = 2 := by omega
    rcases e3 with rfl | rfl | rfl <;> wp_walk using oset_oset, List.length_map, List.length_append
    · exact ⟨lc_line (by omega), fin2 _ (.inl rfl)⟩
    · exact ⟨lc_line (by omega), fin2 _ (.inr (.inl rfl))⟩
    · exact ⟨lc_line (by omega), fin2 _ (.inr (.inr rfl))⟩
  rintro S' O' ⟨rfl, t, more, c', ht, hm, hm2, hD', rfl⟩
  have hw3 : oset (oset O a c') rl (.lst ((rows ++ [ofL (tl row ++ tl t)] ++ more).map DV.str)) w = some (.dK (WK rl row last)) := by rw [oset_ne (Ne.symm hrw), oset_ne (Ne.symm haw)]; exact hw
  wp_walk using hw3
  intro p hp
  have n1 := ne_of hw3 hp
  have n2 := ne_of (oset_same (O := oset O a c') (a := rl)) hp
  have n3 : a ≠ p := ne_of (O := oset (oset O a c') rl _) (c := c') (by rw [oset_ne (Ne.symm hra), oset_same]) hp
  wp_walk using oset_ne n1, hw3, wk_upd, wk_len, wk_len2
  refine ⟨n1, k t more c' _ ht hm hm2 hD' (by rw [oset_ne haw, oset_ne n3, oset_ne (Ne.symm hra), oset_same]) (by rw [oset_ne hrw, oset_ne n2, oset_same]) (by rw [oset_same]; rfl) (fun b hb ho => ?_)⟩
  have b1 : b ≠ a := fun e => hb (by simp [e])
  have b2 : b ≠ rl := fun e => hb (by simp [e])
  have b3 : b ≠ w := fun e => hb (by simp [e])
  have b4 : b ≠ p := by
    rintro rfl
    rw [oset_ne b2, oset_ne b1] at hp
    exact ho hp
  rw [oset_ne b3, oset_ne b4, oset_ne b2, oset_ne b1]
theorem ok_law (T : Tx K w mg) : FnOk P w K mg base CX0 6 T.f_law T.d_law ["_law_script"] (liftSp K spLaw) := by
  refine DFun.ok T.t_law.fn sc_law (by decide) (by rintro _ _ _ _ ⟨_, rfl, _⟩; rfl) (fun cdv A outer s H E ds O Q ED hr h => ?_)
  have nd := sc_law.nd
  have hu64 := hr.units
  have hu := hu_of hr
  have G__law_dice := ok__law_dice (P := P) (base := base) T
  have hr__law_dice : Room 1 _ := hr.mono (by decide)
  have G__law_next := ok__law_next (P := P) (base := base) T
  have hr__law_next : Room 1 _ := hr.mono (by decide)
  have G__law_pick := ok__law_pick (P := P) (base := base) T
  have hr__law_pick : Room 2 _ := hr.mono (by decide)
  have G__law_word := ok__law_word (P := P) (base := base) T
  have hr__law_word : Room 3 _ := hr.mono (by decide)
  have G__law_emit := ok__law_emit (P := P) (base := base) T
  have hr__law_emit : Room 3 _ := hr.mono (by decide)
  have G__law_line := ok__law_line (P := P) (base := base) T
  have hr__law_line : Room 3 _ := hr.mono (by decide)
  have G_words_of := ok_words_of (P := P) (base := base) T
  have hr_words_of : Room 5 _ := hr.mono (by decide)
  have G__law_like := ok__law_like (P := P) (base := base) T 4
  have hr__law_like : Room 5 _ := hr.mono (by decide)
  refine ⟨_, (dss_cons (ds_set 1 (de_call G__law_dice hr__law_dice T.t__law_dice.mg T.t__law_dice.fn.kp T.t__law_dice.bi (da_cons (dv 0) da_nil)) nd)
      (dss_cons (ds_set 2 (de_lstF (da_cons de_str (da_cons de_str (da_cons de_str (da_cons de_str (da_cons de_str (da_cons de_str (da_cons de_str (da_cons de_str (da_cons de_str (da_cons de_str (da_cons de_str (da_cons de_str (da_cons de_str (da_cons de_str da_nil))))))))))))))) nd)
      (dss_cons (ds_set 2 (de_op od_add (dv 2) (de_lstF (da_cons de_str (da_cons de_str (da_cons de_str (da_cons de_str (da_cons de_str (da_cons de_str da_nil)))))))) nd)
      (dss_cons (ds_par 3 4 nd (da_cons (de_disp (dpp_cons de_str (de_lstO da_nil) (dpp_cons de_str de_str (dpp_cons de_str de_str dpp_nil)))) (da_cons (de_lstO da_nil) da_nil)))
      (dss_cons (ds_for PassesOwn.never rfl (di_range1 T.n_range (da_cons (de_call G__law_next hr__law_next T.t__law_next.mg T.t__law_next.fn.kp T.t__law_next.bi (da_cons (dv 1) (da_cons de_int da_nil))) da_nil)) (dg_name 5 nd) (dss_cons (ds_for PassesOwn.never rfl (di_range1 T.n_range (da_cons (de_call G__law_next hr__law_next T.t__law_next.mg T.t__law_next.fn.kp T.t__law_next.bi (da_cons (dv 1) (da_cons de_int da_nil))) da_nil)) (dg_name 8 nd) (dss_cons (ds_set 10 (de_call G__law_pick hr__law_pick T.t__law_pick.mg T.t__law_pick.fn.kp T.t__law_pick.bi (da_cons (dv 1) (da_cons (de_lstF (da_cons de_str (da_cons de_str (da_cons de_str (da_cons de_str (da_cons de_str da_nil)))))) da_nil))) nd)
      (dss_cons (ds_set 11 (de_if (dt_cmp (od_eq hu64) (dv 10) de_str) (de_call G__law_word hr__law_word T.t__law_word.mg T.t__law_word.fn.kp T.t__law_word.bi (da_cons (dv 1) (da_cons (de_lstO da_nil) da_nil))) (de_callTy cd_str T.n_str bb_str (da_cons (de_call G__law_next hr__law_next T.t__law_next.mg T.t__law_next.fn.kp T.t__law_next.bi (da_cons (dv 1) (da_cons (de_ix (de_lstF (da_cons de_int (da_cons de_int da_nil))) (de_call G__law_next hr__law_next T.t__law_next.mg T.t__law_next.fn.kp T.t__law_next.bi (da_cons (dv 1) (da_cons de_int da_nil)))) da_nil))) da_nil))) nd)
      (dss_cons (ds_if (dt_w (dw_or (dt_cmp (od_eq hu64) (dv 10) de_str) (dw_or1 (dt_cmp (od_eq hu64) (dv 10) de_str)))) (dss_cons (ds_set 12 (de_lstF (da_cons de_str (da_cons de_str (da_cons de_str (da_cons de_str (da_cons de_str (da_cons de_str (da_cons de_str (da_cons de_str (da_cons de_str (da_cons de_str (da_cons de_str (da_cons de_str da_nil))))))))))))) nd)
      (dss_one (ds_set 11 (de_call G__law_pick hr__law_pick T.t__law_pick.mg T.t__law_pick.fn.kp T.t__law_pick.bi (da_cons (dv 1) (da_cons (de_if (dt_cmp (od_eq hu64) (dv 10) de_str) (dv 2) (dv 12)) da_nil))) nd))) dss_nil)
      (dss_one (ds_if (dt_not (dt_w (dw_and (dt_cmp (od_eq hu64) (de_dix hu (dv 3) de_str) de_str) (dw_and1 (dt_cmp od_in (de_ix (dv 11) de_int) de_str))))) (dss_one (ds_expr (de_bm PySem.F.plainAttrs_list PySem.F.slot_list_append PySem.F.type_list_append md_append (dv 4) (da_cons (de_tup (da_cons (dv 10) (da_cons (dv 11) (da_cons (de_call G__law_emit hr__law_emit T.t__law_emit.mg T.t__law_emit.fn.kp T.t__law_emit.bi (da_cons (dv 1) (da_cons (dv 3) (da_cons (dv 11) da_nil)))) da_nil)))) da_nil)))) dss_nil))))))
      (dss_one (ds_expr (de_call G__law_line hr__law_line T.t__law_line.mg T.t__law_line.fn.kp T.t__law_line.bi (da_cons (dv 1) (da_cons (dv 3) da_nil)))))))
      (dss_cons (ds_set 6 (de_bm PySem.F.plainAttrs_str PySem.F.slot_str_join PySem.F.type_str_join md_join de_str (da_cons (de_dix hu (dv 3) de_str) da_nil)) nd)
      (dss_cons (ds_for PassesOwn.never rfl (di_range1 T.n_range (da_cons de_int da_nil)) (dg_name 7 nd) (dss_cons (ds_set 9 (de_call G_words_of hr_words_of T.t_words_of.mg T.t_words_of.fn.kp T.t_words_of.bi (da_cons (dv 6) da_nil)) nd)
      (dss_cons (ds_if (dt_not (dt_val (de_call G__law_like hr__law_like T.t__law_like.mg T.t__law_like.fn.kp T.t__law_like.bi (da_cons (dv 9) (da_cons (dv 4) da_nil))))) (dss_one (ds_ret de_bl)) dss_nil)
      (dss_one (ds_expr (de_bm PySem.F.plainAttrs_list PySem.F.slot_list_append PySem.F.type_list_append md_append (dv 9) (da_cons de_int da_nil)))))))
      (dss_one (ds_ret de_bl))))))))), ?_⟩
  obtain ⟨ns, rfl, hn, rfl, k⟩ := h
  walk_at "ev"
  refine ⟨ns, rfl, hn, fun d c hd0 hD => ?_⟩
  refine ⟨line_of (by decide), fun rl hrl w hw q hq => ?_⟩
  refine ⟨d, 9, c, rfl, ?_, hD, by decide, by decide, fun r1 c1 h1 h2 hD1 => ?_⟩
  · rw [oset_ne (ne_of (O := oset (oset (oset (fun _ => none) d c) rl (.lst [])) w _) (c := c) (by rw [oset_ne (ne_of (O := oset (oset (fun _ => none) d c) rl (.lst [])) (c := c) (by rw [oset_ne (ne_of oset_same hrl), oset_same]) hw), oset_ne (ne_of oset_same hrl), oset_same]) hq), oset_ne (ne_of (O := oset (oset (fun _ => none) d c) rl (.lst [])) (c := c) (by rw [oset_ne (ne_of oset_same hrl), oset_same]) hw), oset_ne (ne_of oset_same hrl), oset_same]
  have A : Apart4 d w rl q := by
    have drl := ne_of (oset_same (O := fun _ => none) (a := d) (c := c)) hrl
    have dw : d ≠ w := ne_of (O := oset (oset (fun _ => none) d c) rl (.lst [])) (c := c) (by rw [oset_ne drl, oset_same]) hw
    have rw_ : rl ≠ w := ne_of (O := oset (oset (fun _ => none) d c) rl (.lst [])) (c := .lst []) oset_same hw
    have wq : w ≠ q := ne_of (O := oset (oset (oset (fun _ => none) d c) rl (.lst [])) w _) oset_same hq
    have rq : rl ≠ q := ne_of (O := oset (oset (oset (fun _ => none) d c) rl (.lst [])) w _) (c := .lst []) (by rw [oset_ne rw_, oset_same]) hq
    have dq : d ≠ q := ne_of (O := oset (oset (oset (fun _ => none) d c) rl (.lst [])) w _) (c := c) (by rw [oset_ne dw, oset_ne drl, oset_same]) hq
    exact ⟨dw, drl, dq, Ne.symm rw_, wq, rq⟩
  have I0 : Inv d w rl q 0 (oset (oset (oset (oset (oset (fun _ => none) d c) rl (.lst [])) w (.dK (dmerge [] [(Sum.inr (Str.ofString "rows"), DV.ref rl), (Sum.inr (Str.ofString "row"), DV.str (Str.ofString "")), (Sum.inr (Str.ofString "last"), DV.str (Str.ofString ""))]))) q (.lst [])) d c1) :=
    ⟨c1, [], [], [], oset_same, hD1, by rw [oset_ne (Ne.symm A.dw), oset_ne A.wq, oset_same]; rfl, by rw [oset_ne (Ne.symm A.dr), oset_ne A.rq, oset_ne (Ne.symm A.wr), oset_same]; rfl, by rw [oset_ne (Ne.symm A.dq), oset_same], ⟨trivial, rfl, by simp, by simp, by simp⟩⟩
  generalize oset (oset (oset (oset (oset (fun _ => none) d c) rl (.lst [])) w (.dK (dmerge [] [(Sum.inr (Str.ofString "rows"), DV.ref rl), (Sum.inr (Str.ofString "row"), DV.str (Str.ofString "")), (Sum.inr (Str.ofString "last"), DV.str (Str.ofString ""))]))) q (.lst [])) d c1 = O1 at I0
  walk_at "ev"
  refine ⟨⟨by omega, by omega⟩, ?_⟩
  refine forW_by (α := Own × DSt) (fun x => x.2) (fun x => x.1) _ (fun n x => Inv d w rl q n x.1 ∧ ∃ z5 z8 z10 z11 z12, x.2 = [some (.slst (ns.map DV.int)), some (.ref d), some (.lst (ownW.map DV.str)), some (.ref w), some (.ref q), z5, none, none, z8, none, z10, z11, z12]) ?_ ?_ (O1, [some (.slst (ns.map DV.int)), some (.ref d), some (.lst (ownW.map DV.str)), some (.ref w), some (.ref q), none, none, none, none, none, none, none, none]) rfl rfl ⟨I0, _, _, _, _, _, rfl⟩
  · rintro n ⟨O2, S2⟩ x nx e ⟨hI, z5, z8, z10, z11, z12, rfl⟩ hn
    dsimp only at hI hn
    have hn9 : n < 9 := by
      have := (List.getElem?_eq_some_iff.mp e).1
      rw [List.length_map, List.length_range] at this; omega
    obtain ⟨c2, hO2, hD2⟩ := hI.d
    walk_at "ev"
    refine ⟨d, 12, c2, rfl, hO2, hD2, by decide, by decide, fun r3 c3 h3 h4 hD3 => ?_⟩
    walk_at "ev"
    refine ⟨⟨by omega, by omega⟩, ?_⟩
    refine forW_by (α := Own × DSt) (fun y => y.2) (fun y => y.1) _ (fun k y => InvR d w rl q n k y.1 ∧ ∃ z8 z10 z11 z12, y.2 = [some (.slst (ns.map DV.int)), some (.ref d), some (.lst (ownW.map DV.str)), some (.ref w), some (.ref q), some x, none, none, z8, none, z10, z11, z12]) ?_ ?_ (oset O2 d c3, [some (.slst (ns.map DV.int)), some (.ref d), some (.lst (ownW.map DV.str)), some (.ref w), some (.ref q), some x, none, none, z8, none, z10, z11, z12]) rfl rfl ⟨(hI.dice A hD3).start, _, _, _, _, rfl⟩
    · clear hI hO2 hD2 hD3 I0 z8 z10 z11 z12 z5
      rintro k ⟨O3, S3⟩ y nx2 e2 ⟨hI, z8, z10, z11, z12, rfl⟩ hn2
      dsimp only at hI hn2
      simp only [DL.dgName, List.set_cons_zero, List.set_cons_succ]
      refine dSeq_mid3 (fun S' O' => InvR d w rl q n k O' ∧ ∃ kd word, WordOk kd (tl word) ∧ ∃ z12, S' = [some (.slst (ns.map DV.int)), some (.ref d), some (.lst (ownW.map DV.str)), some (.ref w), some (.ref q), some x, none, none, some y, none, some (.str kd), some (.str word), z12]) (fun R hR => ?_) ?_
      · obtain ⟨c, hO, hD⟩ := hI.d
        walk_at "ev"
        refine ⟨d, _, c, _, rfl, hO, hD, rfl, fun _ => rfl, by decide, by decide, fun v hv c1 hD1 => ?_⟩
        simp only [List.mem_cons, List.not_mem_nil, or_false] at hv
        have NUM : ∀ (X : DVK), (∀ r3 c3, 0 ≤ r3 → r3 < 1000000 → Dice c3 → r3.natAbs.log2 < 1920 → X (.int r3) (oset O3 d c3)) → sp__law_next [.ref d, .int 2] (oset O3 d c1) (fun r O1 => dIx (.lst [.int 10, .int 1000000]) r O1 fun m O1 => sp__law_next [.ref d, m] O1 X X0) X0 := fun X hX => by
          refine ⟨d, 2, c1, rfl, oset_same, hD1, by decide, by decide, fun r2 c2 h3 h4 hD2 => ?_⟩
          rw [oset_oset]
          obtain ⟨m, em, hm1, hm2⟩ := pick_m h3 h4
          wp_walk using em
          refine ⟨d, m, c2, rfl, oset_same, hD2, hm1, by omega, fun r3 c3 h5 h6 hD3 => ?_⟩
          rw [oset_oset]
          exact hX r3 c3 h5 (by omega) hD3 (log2_of r3 h5 (by omega))
        rcases hv with rfl | rfl | rfl | rfl | rfl <;> wp_walk using kn1, kn2, kn3, kn4, kn5, kn6, kn7, kn8, kn9
        · intro p hp
          have ne := hI.ne
          have n1 : w ≠ p := fun e => ne.1 (by subst e; rw [oset_ne (Ne.symm A.dw)] at hp; exact hp)
          have n2 : rl ≠ p := fun e => ne.2.1 (by subst e; rw [oset_ne (Ne.symm A.dr)] at hp; exact hp)
          have n3 : q ≠ p := fun e => ne.2.2 (by subst e; rw [oset_ne (Ne.symm A.dq)] at hp; exact hp)
          have n4 : d ≠ p := ne_of oset_same hp
          refine ⟨d, p, c1, rfl, n4, by rw [oset_ne n4, oset_same], hD1, oset_same, fun wd c' O' hN hD' e1 e2 fr => ?_⟩
          have fr' : ∀ b, b ≠ d → b ≠ p → O3 b ≠ none → O' b = O3 b := fun b b1 b2 b3 => by
            have e : oset (oset O3 d c1) p (Cell.lst []) b = O3 b := by rw [oset_ne b2, oset_ne b1]
            rw [fr b (by simp [b1, b2]) (by rw [e]; exact b3), e]
          exact hR _ _ ⟨hI.frame e1 hD' (fr' w (Ne.symm A.dw) n1 ne.1) (fr' rl (Ne.symm A.dr) n2 ne.2.1) (fr' q (Ne.symm A.dq) n3 ne.2.2), _, _, name_ok hN, _, rfl⟩
        · refine NUM _ fun r3 c3 h5 h6 hD3 hlog => ?_
          walk_at "ev"
          exact ⟨hlog, hR _ _ ⟨hI.dice A hD3, _, _, num_ok (isnum_of r3 h5 h6), _, rfl⟩⟩
        · refine NUM _ fun r3 c3 h5 h6 hD3 hlog => ?_
          wp_walk using kn1, kn2, kn3, kn4, kn5, kn6, kn7, kn8, kn9
          refine ⟨hlog, ?_⟩
          refine ⟨d, _, c3, _, rfl, oset_same, hD3, rfl, fun _ => rfl, by decide, by decide, fun v hv c4 hD4 => ?_⟩
          rw [oset_oset]
          obtain ⟨s, hs, rfl⟩ := List.mem_map.mp (show v ∈ ownW.map DV.str from hv)
          exact hR _ _ ⟨hI.dice A hD4, _, _, own_ok hs, _, rfl⟩
        all_goals
          refine NUM _ fun r3 c3 h5 h6 hD3 hlog => ?_
          wp_walk using kn1, kn2, kn3, kn4, kn5, kn6, kn7, kn8, kn9
          refine ⟨hlog, ?_⟩
          refine ⟨d, _, c3, _, rfl, oset_same, hD3, rfl, fun _ => rfl, by decide, by decide, fun v hv c4 hD4 => ?_⟩
          rw [oset_oset]
          obtain ⟨s, hs, rfl⟩ := List.mem_map.mp (show v ∈ lawSigns.map DV.str from hv)
          exact hR _ _ ⟨hI.dice A hD4, _, _, sign_ok (lawSigns_in s hs), _, rfl⟩
      · rintro S' O' ⟨hI', kd, word, hw, z12, rfl⟩
        have hk12 : k < 12 := by
          have := (List.getElem?_eq_some_iff.mp e2).1
          rw [List.length_map, List.length_range] at this; omega
        have hup := hI'.up
        obtain ⟨c, rows, due, wss, row, last, more, ws, a1, a2, a3, a4, a5, a6, a7, a8⟩ := hI'
        obtain ⟨hk0, ⟨yc, yr, hy, hy1, hy2⟩, hwl, hnl, hwo⟩ := id hw
        have hwl2 : yr.length + 1 ≤ sizeLine := line_of (by rw [hy] at hwl; simp at hwl; omega)
        have skip : nx2 [some (.slst (ns.map DV.int)), some (.ref d), some (.lst (ownW.map DV.str)), some (.ref w), some (.ref q), some x, none, none, some y, none, some (.str kd), some (.str word), z12] O' := hn2 (O', _) ⟨hup, _, _, _, _, rfl⟩
        have EMIT : ∀ (X : DVK), (∀ v O2, O2 q = some (.lst (due ++ more)) → InvR d w rl q n (k + 1) (oset O2 q (.lst (due ++ more ++ [.tup [.str kd, .str word, v]]))) → X v O2) → sp__law_emit [.ref d, .ref w, .str word] O' X X0 := fun X hX => by
          refine ⟨d, w, rl, c, rows, row, last, word, rfl, A.dw, Ne.symm A.dr, Ne.symm A.wr, a1, a2, a4, a3, by rw [hy]; simp, by omega, by omega, by have := a7.len; omega, fun g c' O2 hg hgl hD' e1 e3 fr => ?_⟩
          refine hX _ _ (fr.at a5 (by simp [Ne.symm A.dq, Ne.symm A.wq])) ?_
          exact ⟨c', rows, due, wss, _, word, _, _, by rw [oset_ne A.dq, e1], hD', by rw [oset_ne A.wq, e3], by rw [oset_ne A.rq]; exact fr.at a4 (by simp [Ne.symm A.dr, Ne.symm A.wr]), by rw [oset_same, List.append_assoc], a6, a7.next hw hg (fun g0 => ng_of fun gl => by have := hgl gl; omega), hwl⟩
        have hlen : (due ++ more).length < sizeLine := by
          have := a6.cnt
          have := a7.cnt
          exact lc_line (by rw [List.length_append]; omega)
        wp_walk using a3, WCell, wk_last, hy, hwl2, a5
        refine ite_c (fun _ => ite_c (fun _ => EMIT _ fun v O2 e hi => ?_) (fun _ => skip)) (fun _ => EMIT _ fun v O2 e hi => ?_)
        all_goals
          simp only [e, onL_e1]
          exact ⟨hlen, hn2 (_, _) ⟨hi, _, _, _, _, rfl⟩⟩
    · rintro ⟨O3, S3⟩ ⟨hI3, z8, z10, z11, z12, rfl⟩
      dsimp only at hI3
      rw [List.length_map, List.length_range] at hI3
      obtain ⟨c, rows, due, wss, row, last, more, ws, a1, a2, a3, a4, a5, a6, a7, a8⟩ := hI3
      walk_at "ev"
      refine ⟨d, w, rl, c, rows, row, last, rfl, A.dw, Ne.symm A.dr, Ne.symm A.wr, a1, a2, a4, a3, by have := a7.len; omega, by have := a6.len; omega, fun t sp c' O' ht hsp hl hD' e1 e2 e3 fr => ?_⟩
      exact hn (O', _) ⟨InvR.line (k := r3.toNat) (fr.at a5 (by simp [Ne.symm A.dq, Ne.symm A.wq, Ne.symm A.rq])) a6 a7 (by omega) ht hsp hl hD' e1 e2 e3, _, _, _, _, _, rfl⟩
  · rintro ⟨O2, S2⟩ ⟨hI, z5, z8, z10, z11, z12, rfl⟩
    dsimp only at hI
    rw [List.length_map, List.length_range] at hI
    obtain ⟨c, rows, due, wss, a1, a2, a3, a4, a5, a6⟩ := hI
    wp_walk using a3, WCell, wk_rows, a4, strsOf_strs
    obtain ⟨rs, wss', t1, t2, t3, t4, t5, t6⟩ := text_ok a6 (by omega)
    have hsum := sum_le fun r hr => (a6.row r hr).1
    have hrl := a6.len
    refine ⟨by show _ + rows.length * 1 ≤ _; omega, ⟨by decide, by decide⟩, ?_⟩
    refine forW_by (α := Own × DSt) (fun y => y.2) (fun y => y.1) _ (fun k y => y.1 q = some (.lst due) ∧ ∃ z7 z9, y.2 = [some (.slst (ns.map DV.int)), some (.ref d), some (.lst (ownW.map DV.str)), some (.ref w), some (.ref q), z5, some (.str (Txt.join "
" rows)), z7, z8, z9, z10, z11, z12]) ?_ ?_ (O2, [some (.slst (ns.map DV.int)), some (.ref d), some (.lst (ownW.map DV.str)), some (.ref w), some (.ref q), z5, some (.str (Txt.join "
" rows)), none, z8, none, z10, z11, z12]) rfl rfl ⟨a5, _, _, rfl⟩
    · rintro i ⟨O3, S3⟩ y nx e ⟨hI, z7, z9, rfl⟩ hn
      dsimp only at hI hn
      walk_at "ev"
      refine ⟨_, rs, wss', rfl, t1, t2, t3, t4, t5, fun p hp => ?_⟩
      have hpq : q ≠ p := ne_of hI hp
      have hcnt := a6.cnt
      walk_at "ev"
      refine ⟨.lst (encAll 0 wss'), .ref p, .ref q, 3, rfl, rfl, pure_due (by rw [← t6]; omega), .inr ⟨p, _, rfl, oset_same, rfl⟩, .inr ⟨q, _, rfl, by rw [oset_ne hpq, hI, t6], rfl⟩, ?_⟩
      wp_walk using oset_oset
      exact ⟨lc_line (by rw [← t6]; omega), hn (oset O3 p (.lst (encAll 0 wss' ++ [DV.int 0])), _) ⟨by show oset O3 p _ q = _; rw [oset_ne hpq]; exact hI, _, _, rfl⟩⟩
    · rintro ⟨O3, S3⟩ ⟨hI, z7, z9, rfl⟩
      exact k _
end
end W1

set_option Elab.async false
set_option linter.all false
set_option maxRecDepth 100000
set_option maxHeartbeats 4000000
namespace W1
open PySem PySem.Spec PyProof.Rows L2 TL DL
theorem all_mk {l : PySem.W.OpenLaw} {w : World} {K : PySem.W.Frag} {h : Heap} {mg : Str → Option Value} {fa : Addr} (X : K.In h) (G : h.Ns mainGlobals mg) (hfa : mg "law" = some (.ref fa))
    {f_run_of : Addr} {od_run_of an_run_of : Option Addr} {sl_run_of : Array (Option Value)} {oc_run_of kV_run_of dc_run_of pm_run_of cd_run_of ct_run_of : Value}
    (a_run_of : PySem.W.nsIn K mainGlobals "run_of" = some (some (.ref f_run_of))) (l_run_of : K.lookup f_run_of = some ⟨oc_run_of, od_run_of, .func (PySem.W.fnOf "run_of" "run_of" (defArgs s_run_of) (defBody s_run_of) (defScope s_run_of) .none kV_run_of dc_run_of pm_run_of an_run_of cd_run_of ct_run_of), sl_run_of⟩) (c_run_of : PySem.W.codeIn K cd_run_of "run_of" = true) (k_run_of : PySem.W.keepIn K (.ref f_run_of) = true)
    {f_word_at : Addr} {od_word_at an_word_at : Option Addr} {sl_word_at : Array (Option Value)} {oc_word_at kV_word_at dc_word_at pm_word_at cd_word_at ct_word_at : Value}
    (a_word_at : PySem.W.nsIn K mainGlobals "word_at" = some (some (.ref f_word_at))) (l_word_at : K.lookup f_word_at = some ⟨oc_word_at, od_word_at, .func (PySem.W.fnOf "word_at" "word_at" (defArgs s_word_at) (defBody s_word_at) (defScope s_word_at) .none kV_word_at dc_word_at pm_word_at an_word_at cd_word_at ct_word_at), sl_word_at⟩) (c_word_at : PySem.W.codeIn K cd_word_at "word_at" = true) (k_word_at : PySem.W.keepIn K (.ref f_word_at) = true)
    {f_words_in : Addr} {od_words_in an_words_in : Option Addr} {sl_words_in : Array (Option Value)} {oc_words_in kV_words_in dc_words_in pm_words_in cd_words_in ct_words_in : Value}
    (a_words_in : PySem.W.nsIn K mainGlobals "words_in" = some (some (.ref f_words_in))) (l_words_in : K.lookup f_words_in = some ⟨oc_words_in, od_words_in, .func (PySem.W.fnOf "words_in" "words_in" (defArgs s_words_in) (defBody s_words_in) (defScope s_words_in) .none kV_words_in dc_words_in pm_words_in an_words_in cd_words_in ct_words_in), sl_words_in⟩) (c_words_in : PySem.W.codeIn K cd_words_in "words_in" = true) (k_words_in : PySem.W.keepIn K (.ref f_words_in) = true)
    {f_word_rows : Addr} {od_word_rows an_word_rows : Option Addr} {sl_word_rows : Array (Option Value)} {oc_word_rows kV_word_rows dc_word_rows pm_word_rows cd_word_rows ct_word_rows : Value}
    (a_word_rows : PySem.W.nsIn K mainGlobals "word_rows" = some (some (.ref f_word_rows))) (l_word_rows : K.lookup f_word_rows = some ⟨oc_word_rows, od_word_rows, .func (PySem.W.fnOf "word_rows" "word_rows" (defArgs s_word_rows) (defBody s_word_rows) (defScope s_word_rows) .none kV_word_rows dc_word_rows pm_word_rows an_word_rows cd_word_rows ct_word_rows), sl_word_rows⟩) (c_word_rows : PySem.W.codeIn K cd_word_rows "word_rows" = true) (k_word_rows : PySem.W.keepIn K (.ref f_word_rows) = true)
    {f_words_of : Addr} {od_words_of an_words_of : Option Addr} {sl_words_of : Array (Option Value)} {oc_words_of kV_words_of dc_words_of pm_words_of cd_words_of ct_words_of : Value}
    (a_words_of : PySem.W.nsIn K mainGlobals "words_of" = some (some (.ref f_words_of))) (l_words_of : K.lookup f_words_of = some ⟨oc_words_of, od_words_of, .func (PySem.W.fnOf "words_of" "words_of" (defArgs s_words_of) (defBody s_words_of) (defScope s_words_of) .none kV_words_of dc_words_of pm_words_of an_words_of cd_words_of ct_words_of), sl_words_of⟩) (c_words_of : PySem.W.codeIn K cd_words_of "words_of" = true) (k_words_of : PySem.W.keepIn K (.ref f_words_of) = true)
    {f__law_dice : Addr} {od__law_dice an__law_dice : Option Addr} {sl__law_dice : Array (Option Value)} {oc__law_dice kV__law_dice dc__law_dice pm__law_dice cd__law_dice ct__law_dice : Value}
    (a__law_dice : PySem.W.nsIn K mainGlobals "_law_dice" = some (some (.ref f__law_dice))) (l__law_dice : K.lookup f__law_dice = some ⟨oc__law_dice, od__law_dice, .func (PySem.W.fnOf "_law_dice" "_law_dice" (defArgs s__law_dice) (defBody s__law_dice) (defScope s__law_dice) .none kV__law_dice dc__law_dice pm__law_dice an__law_dice cd__law_dice ct__law_dice), sl__law_dice⟩) (c__law_dice : PySem.W.codeIn K cd__law_dice "_law_dice" = true) (k__law_dice : PySem.W.keepIn K (.ref f__law_dice) = true)
    {f__law_next : Addr} {od__law_next an__law_next : Option Addr} {sl__law_next : Array (Option Value)} {oc__law_next kV__law_next dc__law_next pm__law_next cd__law_next ct__law_next : Value}
    (a__law_next : PySem.W.nsIn K mainGlobals "_law_next" = some (some (.ref f__law_next))) (l__law_next : K.lookup f__law_next = some ⟨oc__law_next, od__law_next, .func (PySem.W.fnOf "_law_next" "_law_next" (defArgs s__law_next) (defBody s__law_next) (defScope s__law_next) .none kV__law_next dc__law_next pm__law_next an__law_next cd__law_next ct__law_next), sl__law_next⟩) (c__law_next : PySem.W.codeIn K cd__law_next "_law_next" = true) (k__law_next : PySem.W.keepIn K (.ref f__law_next) = true)
    {f__law_like : Addr} {od__law_like an__law_like : Option Addr} {sl__law_like : Array (Option Value)} {oc__law_like kV__law_like dc__law_like pm__law_like cd__law_like ct__law_like : Value}
    (a__law_like : PySem.W.nsIn K mainGlobals "_law_like" = some (some (.ref f__law_like))) (l__law_like : K.lookup f__law_like = some ⟨oc__law_like, od__law_like, .func (PySem.W.fnOf "_law_like" "_law_like" (defArgs s__law_like) (defBody s__law_like) (defScope s__law_like) .none kV__law_like dc__law_like pm__law_like an__law_like cd__law_like ct__law_like), sl__law_like⟩) (c__law_like : PySem.W.codeIn K cd__law_like "_law_like" = true) (k__law_like : PySem.W.keepIn K (.ref f__law_like) = true)
    {f__law_pick : Addr} {od__law_pick an__law_pick : Option Addr} {sl__law_pick : Array (Option Value)} {oc__law_pick kV__law_pick dc__law_pick pm__law_pick cd__law_pick ct__law_pick : Value}
    (a__law_pick : PySem.W.nsIn K mainGlobals "_law_pick" = some (some (.ref f__law_pick))) (l__law_pick : K.lookup f__law_pick = some ⟨oc__law_pick, od__law_pick, .func (PySem.W.fnOf "_law_pick" "_law_pick" (defArgs s__law_pick) (defBody s__law_pick) (defScope s__law_pick) .none kV__law_pick dc__law_pick pm__law_pick an__law_pick cd__law_pick ct__law_pick), sl__law_pick⟩) (c__law_pick : PySem.W.codeIn K cd__law_pick "_law_pick" = true) (k__law_pick : PySem.W.keepIn K (.ref f__law_pick) = true)
    {f__law_word : Addr} {od__law_word an__law_word : Option Addr} {sl__law_word : Array (Option Value)} {oc__law_word kV__law_word dc__law_word pm__law_word cd__law_word ct__law_word : Value}
    (a__law_word : PySem.W.nsIn K mainGlobals "_law_word" = some (some (.ref f__law_word))) (l__law_word : K.lookup f__law_word = some ⟨oc__law_word, od__law_word, .func (PySem.W.fnOf "_law_word" "_law_word" (defArgs s__law_word) (defBody s__law_word) (defScope s__law_word) .none kV__law_word dc__law_word pm__law_word an__law_word cd__law_word ct__law_word), sl__law_word⟩) (c__law_word : PySem.W.codeIn K cd__law_word "_law_word" = true) (k__law_word : PySem.W.keepIn K (.ref f__law_word) = true)
    {f__law_emit : Addr} {od__law_emit an__law_emit : Option Addr} {sl__law_emit : Array (Option Value)} {oc__law_emit kV__law_emit dc__law_emit pm__law_emit cd__law_emit ct__law_emit : Value}
    (a__law_emit : PySem.W.nsIn K mainGlobals "_law_emit" = some (some (.ref f__law_emit))) (l__law_emit : K.lookup f__law_emit = some ⟨oc__law_emit, od__law_emit, .func (PySem.W.fnOf "_law_emit" "_law_emit" (defArgs s__law_emit) (defBody s__law_emit) (defScope s__law_emit) .none kV__law_emit dc__law_emit pm__law_emit an__law_emit cd__law_emit ct__law_emit), sl__law_emit⟩) (c__law_emit : PySem.W.codeIn K cd__law_emit "_law_emit" = true) (k__law_emit : PySem.W.keepIn K (.ref f__law_emit) = true)
    {f__law_line : Addr} {od__law_line an__law_line : Option Addr} {sl__law_line : Array (Option Value)} {oc__law_line kV__law_line dc__law_line pm__law_line cd__law_line ct__law_line : Value}
    (a__law_line : PySem.W.nsIn K mainGlobals "_law_line" = some (some (.ref f__law_line))) (l__law_line : K.lookup f__law_line = some ⟨oc__law_line, od__law_line, .func (PySem.W.fnOf "_law_line" "_law_line" (defArgs s__law_line) (defBody s__law_line) (defScope s__law_line) .none kV__law_line dc__law_line pm__law_line an__law_line cd__law_line ct__law_line), sl__law_line⟩) (c__law_line : PySem.W.codeIn K cd__law_line "_law_line" = true) (k__law_line : PySem.W.keepIn K (.ref f__law_line) = true)
    {f_law : Addr} {od_law an_law : Option Addr} {sl_law : Array (Option Value)} {oc_law kV_law dc_law pm_law cd_law ct_law : Value}
    (a_law : PySem.W.nsIn K mainGlobals "law" = some (some (.ref f_law))) (l_law : K.lookup f_law = some ⟨oc_law, od_law, .func (PySem.W.fnOf "law" "law" (defArgs s_law) (defBody s_law) (defScope s_law) .none kV_law dc_law pm_law an_law cd_law ct_law), sl_law⟩) (c_law : PySem.W.codeIn K cd_law "law" = true) (k_law : PySem.W.keepIn K (.ref f_law) = true)
    (n_len : PySem.W.nsIn K mainGlobals "len" = some none)
    (n_enumerate : PySem.W.nsIn K mainGlobals "enumerate" = some none)
    (n_int : PySem.W.nsIn K mainGlobals "int" = some none)
    (n_isinstance : PySem.W.nsIn K mainGlobals "isinstance" = some none)
    (n_tuple : PySem.W.nsIn K mainGlobals "tuple" = some none)
    (n_list : PySem.W.nsIn K mainGlobals "list" = some none)
    (n_bool : PySem.W.nsIn K mainGlobals "bool" = some none)
    (n_str : PySem.W.nsIn K mainGlobals "str" = some none)
    (n_range : PySem.W.nsIn K mainGlobals "range" = some none)
    {a_SIGNS : Addr} {its_SIGNS : Array Value} {n_SIGNS : Nat} {od_SIGNS : Option Addr} {sl_SIGNS : Array (Option Value)} (m_SIGNS : PySem.W.nsIn K mainGlobals "SIGNS" = some (some (.ref a_SIGNS))) (l_SIGNS : K.lookup a_SIGNS = some ⟨.type "tuple", od_SIGNS, .seq its_SIGNS n_SIGNS, sl_SIGNS⟩) (s_SIGNS : its_SIGNS.size ≤ 16000000) (v_SIGNS : Vals [V.str "<>", V.str "<=", V.str "(", V.str ")", V.str ",", V.str ".", V.str "=", V.str "<", V.str "+", V.str "-", V.str "*", V.str "/"] its_SIGNS.toList)
    {z_LETTERS : Tok} (m_LETTERS : PySem.W.nsIn K mainGlobals "LETTERS" = some (some (Value.str "abcdefghijklmnopqrstuvwxyz" z_LETTERS)))
    {z_FIGURES : Tok} (m_FIGURES : PySem.W.nsIn K mainGlobals "FIGURES" = some (some (Value.str "0123456789" z_FIGURES)))
    {a_OWN : Addr} {es_OWN : Array DictEntry} {n_OWN : Nat} (m_OWN : PySem.W.nsIn K mainGlobals "OWN" = some (some (.ref a_OWN))) (l_OWN : K.lookup a_OWN = some ⟨.type "dict", none, .dict es_OWN n_OWN, #[]⟩) (e_OWN : PySem.W.KeysLit w.params es_OWN.toList) (o_OWN : (a_OWN == sysModules) = false) (v_OWN : KeyList es_OWN.toList ["use", "const", "keep", "out", "def", "num", "yes", "no", "let", "if", "else", "while", "end", "give", "say", "do", "or", "and", "not", "mod"])
    {z_LONG : Tok} (m_LONG : PySem.W.nsIn K mainGlobals "LONG" = some (some (Value.int 6 z_LONG)))
    {z_REMARK : Tok} (m_REMARK : PySem.W.nsIn K mainGlobals "REMARK" = some (some (Value.str "#" z_REMARK)))
    : ∃ fd : FuncData, (∀ (s : Shared) (v : Value), BindsTo s fd ⟨[v], []⟩ [("_law_script", v)]) ∧ ∀ base : Heap, K.In base → base.Ns mainGlobals mg → FnOk l.prog w K mg base CX0 6 fa fd ["_law_script"] (liftSp K spLaw) := by
  have e := hfa.symm.trans (PySem.W.mg_of X G a_law)
  cases e
  exact ⟨(PySem.W.fnOf "law" "law" (defArgs s_law) (defBody s_law) (defScope s_law) .none kV_law dc_law pm_law an_law cd_law ct_law), fun s v => .of_eq rfl, fun base _ _ => ok_law ({ f_run_of := f_run_of, d_run_of := (PySem.W.fnOf "run_of" "run_of" (defArgs s_run_of) (defBody s_run_of) (defScope s_run_of) .none kV_run_of dc_run_of pm_run_of an_run_of cd_run_of ct_run_of), t_run_of := ⟨fun_mk (st := s_run_of) l_run_of c_run_of k_run_of, (fun_mk (st := s_run_of) l_run_of c_run_of k_run_of).binds (ps := ["row", "at", "signs"]) (fun _ _ _ _ _ _ us hl => match us, hl with | [_, _, _], _ => rfl), PySem.W.mg_of X G a_run_of⟩, f_word_at := f_word_at, d_word_at := (PySem.W.fnOf "word_at" "word_at" (defArgs s_word_at) (defBody s_word_at) (defScope s_word_at) .none kV_word_at dc_word_at pm_word_at an_word_at cd_word_at ct_word_at), t_word_at := ⟨fun_mk (st := s_word_at) l_word_at c_word_at k_word_at, (fun_mk (st := s_word_at) l_word_at c_word_at k_word_at).binds (ps := ["row", "at"]) (fun _ _ _ _ _ _ us hl => match us, hl with | [_, _], _ => rfl), PySem.W.mg_of X G a_word_at⟩, f_words_in := f_words_in, d_words_in := (PySem.W.fnOf "words_in" "words_in" (defArgs s_words_in) (defBody s_words_in) (defScope s_words_in) .none kV_words_in dc_words_in pm_words_in an_words_in cd_words_in ct_words_in), t_words_in := ⟨fun_mk (st := s_words_in) l_words_in c_words_in k_words_in, (fun_mk (st := s_words_in) l_words_in c_words_in k_words_in).binds (ps := ["row", "number"]) (fun _ _ _ _ _ _ us hl => match us, hl with | [_, _], _ => rfl), PySem.W.mg_of X G a_words_in⟩, f_word_rows := f_word_rows, d_word_rows := (PySem.W.fnOf "word_rows" "word_rows" (defArgs s_word_rows) (defBody s_word_rows) (defScope s_word_rows) .none kV_word_rows dc_word_rows pm_word_rows an_word_rows cd_word_rows ct_word_rows), t_word_rows := ⟨fun_mk (st := s_word_rows) l_word_rows c_word_rows k_word_rows, (fun_mk (st := s_word_rows) l_word_rows c_word_rows k_word_rows).binds (ps := ["text"]) (fun _ _ _ _ _ _ us hl => match us, hl with | [_], _ => rfl), PySem.W.mg_of X G a_word_rows⟩, f_words_of := f_words_of, d_words_of := (PySem.W.fnOf "words_of" "words_of" (defArgs s_words_of) (defBody s_words_of) (defScope s_words_of) .none kV_words_of dc_words_of pm_words_of an_words_of cd_words_of ct_words_of), t_words_of := ⟨fun_mk (st := s_words_of) l_words_of c_words_of k_words_of, (fun_mk (st := s_words_of) l_words_of c_words_of k_words_of).binds (ps := ["text"]) (fun _ _ _ _ _ _ us hl => match us, hl with | [_], _ => rfl), PySem.W.mg_of X G a_words_of⟩, f__law_dice := f__law_dice, d__law_dice := (PySem.W.fnOf "_law_dice" "_law_dice" (defArgs s__law_dice) (defBody s__law_dice) (defScope s__law_dice) .none kV__law_dice dc__law_dice pm__law_dice an__law_dice cd__law_dice ct__law_dice), t__law_dice := ⟨fun_mk (st := s__law_dice) l__law_dice c__law_dice k__law_dice, (fun_mk (st := s__law_dice) l__law_dice c__law_dice k__law_dice).binds (ps := ["_law_script"]) (fun _ _ _ _ _ _ us hl => match us, hl with | [_], _ => rfl), PySem.W.mg_of X G a__law_dice⟩, f__law_next := f__law_next, d__law_next := (PySem.W.fnOf "_law_next" "_law_next" (defArgs s__law_next) (defBody s__law_next) (defScope s__law_next) .none kV__law_next dc__law_next pm__law_next an__law_next cd__law_next ct__law_next), t__law_next := ⟨fun_mk (st := s__law_next) l__law_next c__law_next k__law_next, (fun_mk (st := s__law_next) l__law_next c__law_next k__law_next).binds (ps := ["_law_dice_here", "_law_many"]) (fun _ _ _ _ _ _ us hl => match us, hl with | [_, _], _ => rfl), PySem.W.mg_of X G a__law_next⟩, f__law_like := f__law_like, d__law_like := (PySem.W.fnOf "_law_like" "_law_like" (defArgs s__law_like) (defBody s__law_like) (defScope s__law_like) .none kV__law_like dc__law_like pm__law_like an__law_like cd__law_like ct__law_like), t__law_like := ⟨fun_mk (st := s__law_like) l__law_like c__law_like k__law_like, (fun_mk (st := s__law_like) l__law_like c__law_like k__law_like).binds (ps := ["_law_found", "_law_due"]) (fun _ _ _ _ _ _ us hl => match us, hl with | [_, _], _ => rfl), PySem.W.mg_of X G a__law_like⟩, f__law_pick := f__law_pick, d__law_pick := (PySem.W.fnOf "_law_pick" "_law_pick" (defArgs s__law_pick) (defBody s__law_pick) (defScope s__law_pick) .none kV__law_pick dc__law_pick pm__law_pick an__law_pick cd__law_pick ct__law_pick), t__law_pick := ⟨fun_mk (st := s__law_pick) l__law_pick c__law_pick k__law_pick, (fun_mk (st := s__law_pick) l__law_pick c__law_pick k__law_pick).binds (ps := ["_law_d", "_law_some"]) (fun _ _ _ _ _ _ us hl => match us, hl with | [_, _], _ => rfl), PySem.W.mg_of X G a__law_pick⟩, f__law_word := f__law_word, d__law_word := (PySem.W.fnOf "_law_word" "_law_word" (defArgs s__law_word) (defBody s__law_word) (defScope s__law_word) .none kV__law_word dc__law_word pm__law_word an__law_word cd__law_word ct__law_word), t__law_word := ⟨fun_mk (st := s__law_word) l__law_word c__law_word k__law_word, (fun_mk (st := s__law_word) l__law_word c__law_word k__law_word).binds (ps := ["_law_d", "_law_used"]) (fun _ _ _ _ _ _ us hl => match us, hl with | [_, _], _ => rfl), PySem.W.mg_of X G a__law_word⟩, f__law_emit := f__law_emit, d__law_emit := (PySem.W.fnOf "_law_emit" "_law_emit" (defArgs s__law_emit) (defBody s__law_emit) (defScope s__law_emit) .none kV__law_emit dc__law_emit pm__law_emit an__law_emit cd__law_emit ct__law_emit), t__law_emit := ⟨fun_mk (st := s__law_emit) l__law_emit c__law_emit k__law_emit, (fun_mk (st := s__law_emit) l__law_emit c__law_emit k__law_emit).binds (ps := ["_law_d", "_law_w", "_law_word_here"]) (fun _ _ _ _ _ _ us hl => match us, hl with | [_, _, _], _ => rfl), PySem.W.mg_of X G a__law_emit⟩, f__law_line := f__law_line, d__law_line := (PySem.W.fnOf "_law_line" "_law_line" (defArgs s__law_line) (defBody s__law_line) (defScope s__law_line) .none kV__law_line dc__law_line pm__law_line an__law_line cd__law_line ct__law_line), t__law_line := ⟨fun_mk (st := s__law_line) l__law_line c__law_line k__law_line, (fun_mk (st := s__law_line) l__law_line c__law_line k__law_line).binds (ps := ["_law_d", "_law_w"]) (fun _ _ _ _ _ _ us hl => match us, hl with | [_, _], _ => rfl), PySem.W.mg_of X G a__law_line⟩, f_law := fa, d_law := (PySem.W.fnOf "law" "law" (defArgs s_law) (defBody s_law) (defScope s_law) .none kV_law dc_law pm_law an_law cd_law ct_law), t_law := ⟨fun_mk (st := s_law) l_law c_law k_law, (fun_mk (st := s_law) l_law c_law k_law).binds (ps := ["_law_script"]) (fun _ _ _ _ _ _ us hl => match us, hl with | [_], _ => rfl), PySem.W.mg_of X G a_law⟩, n_len := PySem.W.mg_none_of X G n_len, n_enumerate := PySem.W.mg_none_of X G n_enumerate, n_int := PySem.W.mg_none_of X G n_int, n_isinstance := PySem.W.mg_none_of X G n_isinstance, n_tuple := PySem.W.mg_none_of X G n_tuple, n_list := PySem.W.mg_none_of X G n_list, n_bool := PySem.W.mg_none_of X G n_bool, n_str := PySem.W.mg_none_of X G n_str, n_range := PySem.W.mg_none_of X G n_range, a_SIGNS := a_SIGNS, m_SIGNS := PySem.W.mg_of X G m_SIGNS, k_SIGNS := ⟨_, its_SIGNS, n_SIGNS, l_SIGNS, rfl, rfl, line_of s_SIGNS, v_SIGNS⟩, z_LETTERS := z_LETTERS, m_LETTERS := PySem.W.mg_of X G m_LETTERS, z_FIGURES := z_FIGURES, m_FIGURES := PySem.W.mg_of X G m_FIGURES, a_OWN := a_OWN, m_OWN := PySem.W.mg_of X G m_OWN, k_OWN := ⟨es_OWN, n_OWN, ⟨l_OWN, e_OWN, o_OWN⟩, v_OWN⟩, z_LONG := z_LONG, m_LONG := PySem.W.mg_of X G m_LONG, z_REMARK := z_REMARK, m_REMARK := PySem.W.mg_of X G m_REMARK } : Tx K w mg)⟩
end W1
open PySem PySem.W PyProof.Rows
set_option maxRecDepth 100000 in
set_option maxHeartbeats 0 in
theorem PySem.Challenge.cw_wholetongue_k01_words_told_holds : PySem.Challenge.rw_wholetongue_k01_words_told.Holds := by
  w_on; o_law; k_head; (case hw => w_witness2)
  k_fill
  refine DL.walk (k := 6) (l := PySem.Challenge.rw_wholetongue_k01_words_told) (by decide) rfl rfl (fun w h Y => PySem.W.kIn_of Y) ?F
  case F =>
    intro w mg fa h KX G hmg
    refine' W1.all_mk KX G hmg ?a_run_of ?l_run_of ?c_run_of ?k_run_of ?a_word_at ?l_word_at ?c_word_at ?k_word_at ?a_words_in ?l_words_in ?c_words_in ?k_words_in ?a_word_rows ?l_word_rows ?c_word_rows ?k_word_rows ?a_words_of ?l_words_of ?c_words_of ?k_words_of ?a__law_dice ?l__law_dice ?c__law_dice ?k__law_dice ?a__law_next ?l__law_next ?c__law_next ?k__law_next ?a__law_like ?l__law_like ?c__law_like ?k__law_like ?a__law_pick ?l__law_pick ?c__law_pick ?k__law_pick ?a__law_word ?l__law_word ?c__law_word ?k__law_word ?a__law_emit ?l__law_emit ?c__law_emit ?k__law_emit ?a__law_line ?l__law_line ?c__law_line ?k__law_line ?a_law ?l_law ?c_law ?k_law ?n_len ?n_enumerate ?n_int ?n_isinstance ?n_tuple ?n_list ?n_bool ?n_str ?n_range ?m_SIGNS ?l_SIGNS ?s_SIGNS ?v_SIGNS ?m_LETTERS ?m_FIGURES ?m_OWN ?l_OWN ?e_OWN ?o_OWN ?v_OWN ?m_LONG ?m_REMARK
    (case a_run_of => k_is)
    (case l_run_of => k_is)
    (case c_run_of => k_is)
    (case k_run_of => k_is)
    (case a_word_at => k_is)
    (case l_word_at => k_is)
    (case c_word_at => k_is)
    (case k_word_at => k_is)
    (case a_words_in => k_is)
    (case l_words_in => k_is)
    (case c_words_in => k_is)
    (case k_words_in => k_is)
    (case a_word_rows => k_is)
    (case l_word_rows => k_is)
    (case c_word_rows => k_is)
    (case k_word_rows => k_is)
    (case a_words_of => k_is)
    (case l_words_of => k_is)
    (case c_words_of => k_is)
    (case k_words_of => k_is)
    (case a__law_dice => k_is)
    (case l__law_dice => k_is)
    (case c__law_dice => k_is)
    (case k__law_dice => k_is)
    (case a__law_next => k_is)
    (case l__law_next => k_is)
    (case c__law_next => k_is)
    (case k__law_next => k_is)
    (case a__law_like => k_is)
    (case l__law_like => k_is)
    (case c__law_like => k_is)
    (case k__law_like => k_is)
    (case a__law_pick => k_is)
    (case l__law_pick => k_is)
    (case c__law_pick => k_is)
    (case k__law_pick => k_is)
    (case a__law_word => k_is)
    (case l__law_word => k_is)
    (case c__law_word => k_is)
    (case k__law_word => k_is)
    (case a__law_emit => k_is)
    (case l__law_emit => k_is)
    (case c__law_emit => k_is)
    (case k__law_emit => k_is)
    (case a__law_line => k_is)
    (case l__law_line => k_is)
    (case c__law_line => k_is)
    (case k__law_line => k_is)
    (case a_law => k_is)
    (case l_law => k_is)
    (case c_law => k_is)
    (case k_law => k_is)
    (case n_len => k_is)
    (case n_enumerate => k_is)
    (case n_int => k_is)
    (case n_isinstance => k_is)
    (case n_tuple => k_is)
    (case n_list => k_is)
    (case n_bool => k_is)
    (case n_str => k_is)
    (case n_range => k_is)
    (case m_SIGNS => k_is)
    (case l_SIGNS => k_is)
    (case s_SIGNS => decide)
    (case v_SIGNS => exact (.cons ⟨_, rfl⟩ (.cons ⟨_, rfl⟩ (.cons ⟨_, rfl⟩ (.cons ⟨_, rfl⟩ (.cons ⟨_, rfl⟩ (.cons ⟨_, rfl⟩ (.cons ⟨_, rfl⟩ (.cons ⟨_, rfl⟩ (.cons ⟨_, rfl⟩ (.cons ⟨_, rfl⟩ (.cons ⟨_, rfl⟩ (.cons ⟨_, rfl⟩ .nil)))))))))))))
    (case m_LETTERS => k_is)
    (case m_FIGURES => k_is)
    (case m_OWN => k_is)
    (case l_OWN => k_is)
    (case e_OWN => k_keys)
    (case o_OWN => decide)
    (case v_OWN => (repeat (first | exact True.intro | refine And.intro ⟨_, rfl⟩ ?_)))
    (case m_LONG => k_is)
    (case m_REMARK => k_is)

