import PyProof.Rows.All
import PySem.Challenge.RW_parcelindex_k02_names_words_and_paths
import Wide.All
import OpenK.AllK
import Wide.FinOn
import HandS.ForMost
import HandS.ForSpec
import HandS.Wide
import HandS.TupAny
import HandS.IsInst
import HandS.Defaults
import HandS.RaiseMore
import HandS.HeadEnd
import KE.KStateDown
import Lean
import HandS.Head0
import HandS.Head1
import HandS.Head2
import HandS.HeadHook1
import HandS.HeadHook2
set_option Elab.async false
set_option linter.all false
set_option maxRecDepth 100000
/-! DL: data by value (D), a small memory M of what is changed, readings lifted to them. -/
namespace DL
open PySem L2
abbrev Frag := PySem.W.Frag
/-- data: what is never changed stands by value; ref: a thing by its address (a def, a class, a cell of M) -/
inductive D where
  | non | bl (b : Bool) | int (i : Int) | str (x : Str) | ref (a : Addr) | ty (n : String)
  | tup (l : List D) | lst (l : List D) | dic (ks : List Key) (l : List D) | obj (C : Addr) (ks : List Str) (l : List D)

mutual
def Den (K : Frag) (F : Hp) : D → V → Prop
  | .non, v => v = .non
  | .bl b, v => v = .bl b
  | .int i, v => v = .int i
  | .str x, v => v = .str x
  | .ref a, v => v = .ref a
  | .ty n, v => v = .ty n
  | .tup l, v => ∃ a xs, v = .ref a ∧ SqT K F a xs ∧ DenL K F l xs
  | .lst l, v => ∃ a xs, v = .ref a ∧ SqL K F a xs ∧ DenL K F l xs
  | .dic ks l, v => ∃ a xs, v = .ref a ∧ F a = some (.dK (ks.zip xs)) ∧ ks.length = xs.length ∧ DenL K F l xs
  | .obj C ks l, v => ∃ a dx xs, v = .ref a ∧ F a = some (.ins C dx (ks.zip xs)) ∧ ks.length = xs.length ∧ DenL K F l xs
def DenL (K : Frag) (F : Hp) : List D → List V → Prop
  | [], xs => xs = []
  | d :: ds, xs => ∃ x r, xs = x :: r ∧ Den K F d x ∧ DenL K F ds r
end
/-- what stands before stands behind -/
def Ext (F F' : Hp) : Prop := ∀ a o, F a = some o → F' a = some o
theorem Ext.refl {F : Hp} : Ext F F := fun _ _ h => h
theorem Ext.trans {F G H : Hp} (a : Ext F G) (b : Ext G H) : Ext F H := fun x o h => b x o (a x o h)
theorem Ext.new {F : Hp} {p : Addr} {o : HO} (h : F p = none) : Ext F (upd F p o) := fun a u e => by
  rw [upd_ne (ne_of_none e h)]
  exact e
theorem rd_ext {F F' : Hp} {a : Addr} {u : HO} (e : Ext F F') (h : Rd F a u) : Rd F' a u := h.elim (fun h => .inl (e _ _ h)) fun ⟨o, h⟩ => .inr ⟨o, e _ _ h⟩
theorem sql_ext {K : Frag} {F F' : Hp} {a : Addr} {xs : List V} (e : Ext F F') (h : SqL K F a xs) : SqL K F' a xs := h.elim (fun h => .inl (rd_ext e h)) .inr
theorem sqt_ext {K : Frag} {F F' : Hp} {a : Addr} {xs : List V} (e : Ext F F') (h : SqT K F a xs) : SqT K F' a xs := h.elim (fun h => .inl (rd_ext e h)) .inr
mutual
theorem Den.ext {K : Frag} {F F' : Hp} (e : Ext F F') : ∀ {d : D} {v : V}, Den K F d v → Den K F' d v
  | .non, _, h => h
  | .bl _, _, h => h
  | .int _, _, h => h
  | .str _, _, h => h
  | .ref _, _, h => h
  | .ty _, _, h => h
  | .tup _, _, ⟨a, xs, h1, h2, h3⟩ => ⟨a, xs, h1, sqt_ext e h2, DenL.ext e h3⟩
  | .lst _, _, ⟨a, xs, h1, h2, h3⟩ => ⟨a, xs, h1, sql_ext e h2, DenL.ext e h3⟩
  | .dic _ _, _, ⟨a, xs, h1, h2, h3, h4⟩ => ⟨a, xs, h1, e _ _ h2, h3, DenL.ext e h4⟩
  | .obj _ _ _, _, ⟨a, dx, xs, h1, h2, h3, h4⟩ => ⟨a, dx, xs, h1, e _ _ h2, h3, DenL.ext e h4⟩
theorem DenL.ext {K : Frag} {F F' : Hp} (e : Ext F F') : ∀ {l : List D} {xs : List V}, DenL K F l xs → DenL K F' l xs
  | [], _, h => h
  | _ :: _, _, ⟨x, r, h1, h2, h3⟩ => ⟨x, r, h1, Den.ext e h2, DenL.ext e h3⟩
end
theorem DenL.len {K : Frag} {F : Hp} : ∀ {l : List D} {xs : List V}, DenL K F l xs → l.length = xs.length
  | [], xs, h => by rw [show xs = [] from h] <;> rfl
  | _ :: _, _, ⟨_, _, h1, _, h3⟩ => by rw [h1, List.length_cons, List.length_cons, DenL.len h3]
theorem DenL.get {K : Frag} {F : Hp} : ∀ {l : List D} {xs : List V} {i : Nat} {d : D}, DenL K F l xs → l[i]? = some d → ∃ x, xs[i]? = some x ∧ Den K F d x
  | [], _, _, _, _, e => by cases e
  | _ :: _, _, 0, _, ⟨x, r, h1, h2, h3⟩, e => by subst h1; cases e; exact ⟨x, rfl, h2⟩
  | _ :: _, _, i + 1, _, ⟨x, r, h1, h2, h3⟩, e => by
    subst h1
    exact DenL.get (i := i) h3 (by simpa using e)
theorem DenL.get' {K : Frag} {F : Hp} : ∀ {l : List D} {xs : List V} {i : Nat} {x : V}, DenL K F l xs → xs[i]? = some x → ∃ d, l[i]? = some d ∧ Den K F d x
  | [], _, _, _, h, e => by rw [show _ = [] from h] at e; cases e
  | d :: _, _, 0, _, ⟨x, r, h1, h2, h3⟩, e => by subst h1; cases e; exact ⟨d, rfl, h2⟩
  | _ :: _, _, i + 1, _, ⟨x, r, h1, h2, h3⟩, e => by
    subst h1
    exact DenL.get' (i := i) h3 (by simpa using e)
theorem DenL.append {K : Frag} {F : Hp} : ∀ {l m : List D} {xs ys : List V}, DenL K F l xs → DenL K F m ys → DenL K F (l ++ m) (xs ++ ys)
  | [], _, _, _, h, g => by rw [show _ = [] from h]; exact g
  | _ :: _, _, _, _, ⟨x, r, h1, h2, h3⟩, g => by subst h1; exact ⟨x, _, rfl, h2, DenL.append h3 g⟩
theorem DenL.take {K : Frag} {F : Hp} : ∀ {l : List D} {xs : List V} (n : Nat), DenL K F l xs → DenL K F (l.take n) (xs.take n)
  | _, _, 0, _ => by simp [DenL]
  | [], _, _ + 1, h => by rw [show _ = [] from h]; simp [DenL]
  | _ :: _, _, n + 1, ⟨x, r, h1, h2, h3⟩ => by subst h1; exact ⟨x, _, rfl, h2, DenL.take n h3⟩
theorem DenL.drop {K : Frag} {F : Hp} : ∀ {l : List D} {xs : List V} (n : Nat), DenL K F l xs → DenL K F (l.drop n) (xs.drop n)
  | _, _, 0, h => h
  | [], _, _ + 1, h => by rw [show _ = [] from h]; simp [DenL]
  | _ :: _, _, n + 1, ⟨x, r, h1, h2, h3⟩ => by subst h1; exact DenL.drop n h3
theorem DenL.set {K : Frag} {F : Hp} {d : D} {x : V} (h : Den K F d x) : ∀ {l : List D} {xs : List V} (n : Nat), DenL K F l xs → DenL K F (l.set n d) (xs.set n x)
  | [], _, _, h => by rw [show _ = [] from h]; simp [DenL]
  | _ :: _, _, 0, ⟨x, r, h1, h2, h3⟩ => by subst h1; exact ⟨_, _, rfl, h, h3⟩
  | _ :: _, _, n + 1, ⟨x, r, h1, h2, h3⟩ => by subst h1; exact ⟨_, _, rfl, h2, DenL.set h n h3⟩
theorem DenL.reverse {K : Frag} {F : Hp} : ∀ {l : List D} {xs : List V}, DenL K F l xs → DenL K F l.reverse xs.reverse
  | [], _, h => by rw [show _ = [] from h]; exact rfl
  | _ :: _, _, ⟨x, r, h1, h2, h3⟩ => by
    subst h1
    rw [List.reverse_cons, List.reverse_cons]
    exact (DenL.reverse h3).append ⟨x, [], rfl, h2, rfl⟩
theorem DenL.one {K : Frag} {F : Hp} {d : D} {x : V} (h : Den K F d x) : DenL K F [d] [x] := ⟨x, [], rfl, h, rfl⟩
theorem DenL.ofMap {K : Frag} {F : Hp} {α : Type} {f : α → D} {g : α → V} (h : ∀ x, Den K F (f x) (g x)) : ∀ l : List α, DenL K F (l.map f) (l.map g)
  | [] => rfl
  | x :: r => ⟨_, _, rfl, h x, DenL.ofMap h r⟩
theorem DenL.toMap {K : Frag} {F : Hp} {α : Type} {f : α → D} {g : α → V} (h : ∀ x v, Den K F (f x) v → v = g x) : ∀ (l : List α) {xs : List V}, DenL K F (l.map f) xs → xs = l.map g
  | [], _, e => e
  | x :: r, _, ⟨y, ys, h1, h2, h3⟩ => by rw [h1, h x y h2, DenL.toMap h r h3]; rfl

/-! ### the memory -/
inductive MB where
  | lst (l : List D) | dic (kvs : List (Key × D)) | ins (C : Addr) (fs : List (Str × D))
/-- a cell holds something of which φ is told -/
abbrev Mem := Addr → Option (MB → Prop)
def DenP (K : Frag) (F : Hp) {κ : Type} (l : List (κ × D)) (xs : List (κ × V)) : Prop := l.map (·.1) = xs.map (·.1) ∧ DenL K F (l.map (·.2)) (xs.map (·.2))
def DenB (K : Frag) (F : Hp) : MB → HO → Prop
  | .lst l, ho => ∃ xs, ho = .lst xs ∧ DenL K F l xs
  | .dic kvs, ho => ∃ xs, ho = .dK xs ∧ DenP K F kvs xs
  | .ins C fs, ho => ∃ dx xs, ho = .ins C dx xs ∧ DenP K F fs xs
def DenM (K : Frag) (F : Hp) (φ : MB → Prop) (ho : HO) : Prop := ∃ mb, φ mb ∧ DenB K F mb ho
theorem DenB.ext {K : Frag} {F F' : Hp} (e : Ext F F') {mb : MB} {ho : HO} (h : DenB K F mb ho) : DenB K F' mb ho := by
  cases mb with
  | lst l => obtain ⟨xs, h1, h2⟩ := h; exact ⟨xs, h1, h2.ext e⟩
  | dic kvs => obtain ⟨xs, h1, h2, h3⟩ := h; exact ⟨xs, h1, h2, h3.ext e⟩
  | ins C fs => obtain ⟨dx, xs, h1, h2, h3⟩ := h; exact ⟨dx, xs, h1, h2, h3.ext e⟩
def mset (M : Mem) (a : Addr) (φ : MB → Prop) : Mem := fun b => if b = a then some φ else M b
def mdel (M : Mem) (a : Addr) : Mem := fun b => if b = a then none else M b
theorem mset_same {M : Mem} {a : Addr} {φ : MB → Prop} : mset M a φ a = some φ := if_pos rfl
theorem mset_ne {M : Mem} {a b : Addr} {φ : MB → Prop} (h : b ≠ a) : mset M a φ b = M b := if_neg h
theorem mdel_ne {M : Mem} {a b : Addr} (h : b ≠ a) : mdel M a b = M b := if_neg h
theorem mset_mset {M : Mem} {a : Addr} {φ ψ : MB → Prop} : mset (mset M a φ) a ψ = mset M a ψ := by
  funext b; unfold mset; split <;> rfl
theorem mset_id {M : Mem} {a : Addr} {φ : MB → Prop} (h : M a = some φ) : mset M a φ = M := by
  funext b; unfold mset; split
  · rename_i e; subst e; exact h.symm
  · rfl
theorem mdel_mset {M : Mem} {a : Addr} {φ : MB → Prop} (h : M a = none) : mdel (mset M a φ) a = M := by
  funext b; unfold mdel mset; split
  · rename_i e; subst e; exact h.symm
  · rfl
theorem ne_mem {M : Mem} {a b : Addr} {φ : MB → Prop} (h : M a = some φ) (h' : M b = none) : a ≠ b := fun e => by subst e; rw [h] at h'; cases h'
/-- F: what is never changed; H has it and the cells; G: what stands aside -/
structure Sat (K : Frag) (F : Hp) (M : Mem) (G : Hp) (H : Hp) : Prop where
  sub : Ext F H
  dis : ∀ a φ, M a = some φ → F a = none
  mem : ∀ a φ, M a = some φ → ∃ ho, H a = some ho ∧ DenM K F φ ho
  fr : ∀ a o, G a = some o → H a = some o ∧ F a = none ∧ M a = none
theorem Sat.freshF {K : Frag} {F G : Hp} {M : Mem} {H : Hp} (s : Sat K F M G H) {p : Addr} (h : H p = none) : F p = none := by
  cases e : F p with
  | none => rfl
  | some o => rw [s.sub p o e] at h; cases h
theorem Sat.freshM {K : Frag} {F G : Hp} {M : Mem} {H : Hp} (s : Sat K F M G H) {p : Addr} (h : H p = none) : M p = none := by
  cases e : M p with
  | none => rfl
  | some o => obtain ⟨ho, h1, _⟩ := s.mem p o e; rw [h1] at h; cases h
/-- a new object that is never changed -/
theorem Sat.new {K : Frag} {F G : Hp} {M : Mem} {H : Hp} (s : Sat K F M G H) {p : Addr} {o : HO} (h : H p = none) : Sat K (upd F p o) M G (upd H p o) where
  sub := fun a u e => by
    by_cases q : a = p
    · subst q; rw [upd_same] at e ⊢; exact e
    · rw [upd_ne q] at e ⊢; exact s.sub a u e
  dis := fun a φ e => by
    rw [upd_ne (ne_mem e (s.freshM h))]
    exact s.dis a φ e
  mem := fun a φ e => by
    obtain ⟨ho, h1, mb, h2, h3⟩ := s.mem a φ e
    refine ⟨ho, ?_, mb, h2, h3.ext (Ext.new (s.freshF h))⟩
    rw [upd_ne (ne_of_none h1 h)]
    exact h1
  fr := fun a u e => by
    obtain ⟨g1, g2, g3⟩ := s.fr a u e
    have z := ne_of_none g1 h
    rw [upd_ne z, upd_ne z]
    exact ⟨g1, g2, g3⟩
/-- a new cell -/
theorem Sat.cell {K : Frag} {F G : Hp} {M : Mem} {H : Hp} (s : Sat K F M G H) {p : Addr} {o : HO} {φ : MB → Prop} (h : H p = none) (q : DenM K F φ o) : Sat K F (mset M p φ) G (upd H p o) where
  sub := fun a u e => by
    rw [upd_ne (ne_of_none e (s.freshF h))]
    exact s.sub a u e
  dis := fun a ψ e => by
    by_cases z : a = p
    · subst z; exact s.freshF h
    · rw [mset_ne z] at e; exact s.dis a ψ e
  mem := fun a ψ e => by
    by_cases z : a = p
    · subst z; rw [mset_same] at e; cases e; exact ⟨o, upd_same, q⟩
    · rw [mset_ne z] at e
      obtain ⟨ho, h1, h2⟩ := s.mem a ψ e
      exact ⟨ho, by rw [upd_ne z]; exact h1, h2⟩
  fr := fun a u e => by
    obtain ⟨g1, g2, g3⟩ := s.fr a u e
    have z := ne_of_none g1 h
    rw [upd_ne z, mset_ne z]
    exact ⟨g1, g2, g3⟩
/-- a cell is written -/
theorem Sat.write {K : Frag} {F G : Hp} {M : Mem} {H : Hp} (s : Sat K F M G H) {p : Addr} {o : HO} {φ ψ : MB → Prop} (h : M p = some φ) (q : DenM K F ψ o) : Sat K F (mset M p ψ) G (upd H p o) where
  sub := fun a u e => by
    have z : a ≠ p := fun z => by subst z; rw [s.dis a φ h] at e; cases e
    rw [upd_ne z]
    exact s.sub a u e
  dis := fun a χ e => by
    by_cases z : a = p
    · subst z; exact s.dis a φ h
    · rw [mset_ne z] at e; exact s.dis a χ e
  mem := fun a χ e => by
    by_cases z : a = p
    · subst z; rw [mset_same] at e; cases e; exact ⟨o, upd_same, q⟩
    · rw [mset_ne z] at e
      obtain ⟨ho, h1, h2⟩ := s.mem a χ e
      exact ⟨ho, by rw [upd_ne z]; exact h1, h2⟩
  fr := fun a u e => by
    obtain ⟨g1, g2, g3⟩ := s.fr a u e
    have z : a ≠ p := fun z => by subst z; rw [h] at g3; cases g3
    rw [upd_ne z, mset_ne z]
    exact ⟨g1, g2, g3⟩
/-- more is told of a cell -/
theorem Sat.tell {K : Frag} {F G : Hp} {M : Mem} {H : Hp} (s : Sat K F M G H) {p : Addr} {φ : MB → Prop} (h : M p = some φ) : ∃ mb ho, φ mb ∧ H p = some ho ∧ DenB K F mb ho ∧ Sat K F (mset M p (· = mb)) G H := by
  obtain ⟨ho, h1, mb, h2, h3⟩ := s.mem p φ h
  refine ⟨mb, ho, h2, h1, h3, s.sub, fun a χ e => ?_, fun a χ e => ?_, fun a u e => ?_⟩
  · by_cases z : a = p
    · subst z; exact s.dis a φ h
    · rw [mset_ne z] at e; exact s.dis a χ e
  · by_cases z : a = p
    · subst z; rw [mset_same] at e; cases e; exact ⟨ho, h1, mb, rfl, h3⟩
    · rw [mset_ne z] at e; exact s.mem a χ e
  · obtain ⟨g1, g2, g3⟩ := s.fr a u e
    have z : a ≠ p := fun z => by subst z; rw [h] at g3; cases g3
    rw [mset_ne z]
    exact ⟨g1, g2, g3⟩
theorem Sat.less {K : Frag} {F G : Hp} {M M' : Mem} {H : Hp} (s : Sat K F M G H) (h : ∀ a ψ, M' a = some ψ → ∃ φ, M a = some φ ∧ ∀ mb, φ mb → ψ mb) : Sat K F M' G H :=
  ⟨s.sub, fun a ψ e => let ⟨φ, e', _⟩ := h a ψ e; s.dis a φ e', fun a ψ e => let ⟨φ, e', k⟩ := h a ψ e; let ⟨ho, h1, mb, h2, h3⟩ := s.mem a φ e'; ⟨ho, h1, mb, k mb h2, h3⟩, fun a u e => let ⟨g1, g2, g3⟩ := s.fr a u e; ⟨g1, g2, by
    cases q : M' a with
    | none => rfl
    | some ψ => obtain ⟨φ, e', _⟩ := h a ψ q; rw [g3] at e'; cases e'⟩⟩
/-- a cell that holds a list is never changed from now on -/
theorem Sat.freeze {K : Frag} {F G : Hp} {M : Mem} {H : Hp} {p : Addr} {ds : List D} (s : Sat K F M G H) (h : M p = some (· = .lst ds)) : ∃ F', Ext F F' ∧ Sat K F' (mdel M p) G H ∧ Den K F' (.lst ds) (.ref p) := by
  obtain ⟨ho, h1, mb, h2, h3⟩ := s.mem p _ h
  subst h2
  obtain ⟨xs, rfl, h4⟩ := h3
  have fp := s.dis p _ h
  have ex : Ext F (upd F p (.lst xs)) := Ext.new fp
  refine ⟨upd F p (.lst xs), ex, ⟨fun a u e => ?_, fun a φ e => ?_, fun a φ e => ?_, fun a u e => ?_⟩, p, xs, rfl, SqL.of upd_same, h4.ext ex⟩
  · by_cases z : a = p
    · subst z; rw [upd_same] at e; cases e; exact h1
    · rw [upd_ne z] at e; exact s.sub a u e
  · by_cases z : a = p
    · subst z; unfold mdel at e; rw [if_pos rfl] at e; cases e
    · rw [mdel_ne z] at e; rw [upd_ne z]; exact s.dis a φ e
  · by_cases z : a = p
    · subst z; unfold mdel at e; rw [if_pos rfl] at e; cases e
    · rw [mdel_ne z] at e
      obtain ⟨ho, g1, mb, g2, g3⟩ := s.mem a φ e
      exact ⟨ho, g1, mb, g2, g3.ext ex⟩
  · obtain ⟨g1, g2, g3⟩ := s.fr a u e
    have z : a ≠ p := fun z => by subst z; rw [h] at g3; cases g3
    rw [upd_ne z, mdel_ne z]
    exact ⟨g1, g2, g3⟩
/-- another thing is put aside, or less of it is told -/
theorem Sat.aside {K : Frag} {F G G' : Hp} {M : Mem} {H : Hp} (s : Sat K F M G H) (h : ∀ a o, G' a = some o → G a = some o) : Sat K F M G' H := ⟨s.sub, s.dis, s.mem, fun a o e => s.fr a o (h a o e)⟩
theorem Sat.put {K : Frag} {F G : Hp} {M : Mem} {H : Hp} (s : Sat K F M G H) {p : Addr} {o : HO} (h : H p = none) : Sat K F M (upd G p o) (upd H p o) where
  sub := fun a u e => by
    rw [upd_ne (ne_of_none e (s.freshF h))]
    exact s.sub a u e
  dis := s.dis
  mem := fun a ψ e => by
    obtain ⟨ho, h1, h2⟩ := s.mem a ψ e
    exact ⟨ho, by rw [upd_ne (ne_of_none h1 h)]; exact h1, h2⟩
  fr := fun a u e => by
    by_cases z : a = p
    · subst z; rw [upd_same] at e ⊢; exact ⟨e, s.freshF h, s.freshM h⟩
    · rw [upd_ne z] at e ⊢; exact s.fr a u e
theorem Sat.reput {K : Frag} {F G : Hp} {M : Mem} {H : Hp} {p : Addr} {o u : HO} (s : Sat K F M (upd G p u) H) : Sat K F M (upd G p o) (upd H p o) where
  sub := fun a v e => by
    have z : a ≠ p := fun z => by
      subst z
      have := (s.fr a u upd_same).2.1
      rw [this] at e; cases e
    rw [upd_ne z]
    exact s.sub a v e
  dis := s.dis
  mem := fun a ψ e => by
    obtain ⟨ho, h1, h2⟩ := s.mem a ψ e
    have z : a ≠ p := fun z => by
      subst z
      have := (s.fr a u upd_same).2.2
      rw [this] at e; cases e
    exact ⟨ho, by rw [upd_ne z]; exact h1, h2⟩
  fr := fun a v e => by
    by_cases z : a = p
    · subst z; rw [upd_same] at e ⊢; exact ⟨e, (s.fr a u upd_same).2⟩
    · rw [upd_ne z] at e ⊢; exact s.fr a v (by rw [upd_ne z]; exact e)
/-- what stood aside is never changed from now on -/
theorem Sat.settle {K : Frag} {F G : Hp} {M : Mem} {H : Hp} {p : Addr} {o : HO} (s : Sat K F M (upd G p o) H) (hg : G p = none) : Ext F (upd F p o) ∧ Sat K (upd F p o) M G H := by
  obtain ⟨h1, h2, h3⟩ := s.fr p o upd_same
  have ex : Ext F (upd F p o) := Ext.new h2
  refine ⟨ex, fun a u e => ?_, fun a φ e => ?_, fun a φ e => ?_, fun a u e => ?_⟩
  · by_cases z : a = p
    · subst z; rw [upd_same] at e; cases e; exact h1
    · rw [upd_ne z] at e; exact s.sub a u e
  · rw [upd_ne (ne_mem e h3)]; exact s.dis a φ e
  · obtain ⟨ho, g1, mb, g2, g3⟩ := s.mem a φ e
    exact ⟨ho, g1, mb, g2, g3.ext ex⟩
  · have z : a ≠ p := ne_of_none e hg
    rw [upd_ne z]
    exact s.fr a u (by rw [upd_ne z]; exact e)
theorem Sat.freshG {K : Frag} {F G : Hp} {M : Mem} {H : Hp} (s : Sat K F M G H) {p : Addr} (h : H p = none) : G p = none := by
  cases e : G p with
  | none => rfl
  | some o => rw [(s.fr p o e).1] at h; cases h
theorem aside_upd {G : Hp} {p : Addr} {o : HO} (h : G p = none) : ∀ a u, G a = some u → upd G p o a = some u := fun a u e => by
  rw [upd_ne (ne_of_none e h)]
  exact e

/-! ### readings over data -/
abbrev DE := List (Option D)
structure EnvOk (K : Frag) (F : Hp) (δ : DE) (σ : St) : Prop where
  len : δ.length = σ.length
  at_ : ∀ (i : Nat) (d : D), δ[i]? = some (some d) → ∃ v : V, σ[i]? = some (some v) ∧ Den K F d v
theorem EnvOk.ext {K : Frag} {F F' : Hp} {δ : DE} {σ : St} (h : EnvOk K F δ σ) (e : Ext F F') : EnvOk K F' δ σ := ⟨h.len, fun i d q => let ⟨v, a, b⟩ := h.at_ i d q; ⟨v, a, b.ext e⟩⟩
theorem EnvOk.set {K : Frag} {F : Hp} {δ : DE} {σ : St} (h : EnvOk K F δ σ) {i : Nat} {d : D} {v : V} (q : Den K F d v) : EnvOk K F (δ.set i (some d)) (σ.set i (some v)) := by
  refine ⟨by rw [List.length_set, List.length_set, h.len], fun j d' e => ?_⟩
  by_cases z : i = j
  · subst z
    by_cases l : i < δ.length
    · rw [List.getElem?_set_self l] at e
      cases e
      exact ⟨v, by rw [List.getElem?_set_self (by rw [← h.len]; exact l)], q⟩
    · rw [List.getElem?_eq_none (by rw [List.length_set]; omega)] at e
      cases e
  · rw [List.getElem?_set_ne z] at e ⊢
    exact h.at_ j d' e
abbrev WK := D → Mem → Prop
abbrev WE := DE → Mem → WK → Prop
abbrev WT := DE → Mem → (Bool → Mem → Prop) → Prop
abbrev WA := DE → Mem → (List D → Mem → Prop) → Prop
structure WEnds where
  nx : DE → Mem → Prop
  rt : WK
  bk : DE → Mem → Prop := fun _ _ => False
  ct : DE → Mem → Prop := fun _ _ => False
abbrev WS := WEnds → DE → Mem → Prop
/-- an exception of a class of one's own: its class, its fields -/
structure Exn where
  cls : Addr
  ks : List Str
  fs : List D
abbrev WX := Exn → Mem → Prop
/-- what is wanted of exceptions, lifted -/
def EOk (K : Frag) (F G : Hp) (Ξ : WX) (E : XK) : Prop := ∀ (x : Exn) (M : Mem) (F' H : Hp) (dx : Addr) (xs : List V), Ξ x M → Ext F F' → Sat K F' M G H → H dx = some (.xd (x.ks.zip xs)) → x.ks.length = xs.length → DenL K F' x.fs xs → E (.ref x.cls) (some dx) H
theorem EOk.ext {K : Frag} {F F' G : Hp} {Ξ : WX} {E : XK} (h : EOk K F G Ξ E) (e : Ext F F') : EOk K F' G Ξ E := fun x M F2 H dx xs q y => h x M F2 H dx xs q (e.trans y)
theorem EOk.aside {K : Frag} {F G G' : Hp} {Ξ : WX} {E : XK} (h : EOk K F G Ξ E) (e : ∀ a o, G a = some o → G' a = some o) : EOk K F G' Ξ E := fun x M F2 H dx xs q y s => h x M F2 H dx xs q y (s.aside e)
theorem EOk.none {K : Frag} {F G : Hp} {E : XK} : EOk K F G (fun _ _ => False) E := fun _ _ _ _ _ _ h => h.elim
/-- lifting: an expression's, a test's, an argument list's reading -/
class LfE (K : Frag) (E : XK) (Ξ : WX) (t : TE) (W : outParam WE) : Prop where
  run : ∀ {δ : DE} {M : Mem} {Q : WK}, W δ M Q → ∀ {σ : St} {F G H : Hp}, EnvOk K F δ σ → Sat K F M G H → EOk K F G Ξ E → ∀ {R : VK}, (∀ d M' v F' H', Q d M' → Ext F F' → Sat K F' M' G H' → Den K F' d v → R v H') → t σ H R
class LfT (K : Frag) (E : XK) (Ξ : WX) (t : TT) (W : outParam WT) : Prop where
  run : ∀ {δ : DE} {M : Mem} {Q : Bool → Mem → Prop}, W δ M Q → ∀ {σ : St} {F G H : Hp}, EnvOk K F δ σ → Sat K F M G H → EOk K F G Ξ E → ∀ {R : Bool → Hp → Prop}, (∀ b M' F' H', Q b M' → Ext F F' → Sat K F' M' G H' → R b H') → t σ H R
class LfA (K : Frag) (E : XK) (Ξ : WX) (t : TA) (W : outParam WA) : Prop where
  run : ∀ {δ : DE} {M : Mem} {Q : List D → Mem → Prop}, W δ M Q → ∀ {σ : St} {F G H : Hp}, EnvOk K F δ σ → Sat K F M G H → EOk K F G Ξ E → ∀ {R : List V → Hp → Prop}, (∀ ds M' vs F' H', Q ds M' → Ext F F' → Sat K F' M' G H' → DenL K F' ds vs → R vs H') → t σ H R
/-- what is wanted behind a statement, lifted -/
structure EndsOk (K : Frag) (F G : Hp) (D : WEnds) (E : Ends) : Prop where
  nx : ∀ δ M σ F' H, D.nx δ M → Ext F F' → EnvOk K F' δ σ → Sat K F' M G H → E.nx σ H
  rt : ∀ d M v F' H, D.rt d M → Ext F F' → Sat K F' M G H → Den K F' d v → E.rt v H
  bk : ∀ δ M σ F' H, D.bk δ M → Ext F F' → EnvOk K F' δ σ → Sat K F' M G H → E.bk σ H
  ct : ∀ δ M σ F' H, D.ct δ M → Ext F F' → EnvOk K F' δ σ → Sat K F' M G H → E.ct σ H
theorem EndsOk.ext {K : Frag} {F F' G : Hp} {D : WEnds} {E : Ends} (h : EndsOk K F G D E) (e : Ext F F') : EndsOk K F' G D E :=
  ⟨fun δ M σ F2 H q x => h.nx δ M σ F2 H q (e.trans x), fun d M v F2 H q x => h.rt d M v F2 H q (e.trans x), fun δ M σ F2 H q x => h.bk δ M σ F2 H q (e.trans x), fun δ M σ F2 H q x => h.ct δ M σ F2 H q (e.trans x)⟩
class LfS (K : Frag) (E : XK) (Ξ : WX) (t : TS) (W : outParam WS) : Prop where
  run : ∀ {D : WEnds} {δ : DE} {M : Mem}, W D δ M → ∀ {σ : St} {F G H : Hp} {N : Ends}, EnvOk K F δ σ → Sat K F M G H → EOk K F G Ξ E → EndsOk K F G D N → t N σ H

section
variable {K : Frag} {E : XK} {Ξ : WX} {ta tb te : TE} {wa wb we : WE} {t u c : TT} {wt wu wc : WT} {tl : TA} {wl : WA} {ts us : TS} {ws wr : WS}
/-! ### names, constants -/
def wVar (i : Nat) (δ : DE) (M : Mem) (Q : WK) : Prop := ∃ d, δ[i]? = some (some d) ∧ Q d M
instance lf_var {i : Nat} : LfE K E Ξ (tVar i) (wVar i) := ⟨fun {δ M Q} ⟨d, h, q⟩ {σ F G H} e s o {R} k =>
  let ⟨v, a, b⟩ := e.at_ i d h
  ⟨v, a, k d M v F H q Ext.refl s b⟩⟩
def dV : V → D
  | .non => .non
  | .bl b => .bl b
  | .int i => .int i
  | .str x => .str x
  | .ref a => .ref a
  | .ty n => .ty n
  | _ => .non
def okV : V → Bool
  | .byt _ => false
  | .flt _ => false
  | _ => true
theorem den_dV {F : Hp} : ∀ {v : V}, okV v = true → Den K F (dV v) v
  | .non, _ => rfl
  | .bl _, _ => rfl
  | .int _, _ => rfl
  | .str _, _ => rfl
  | .ref _, _ => rfl
  | .ty _, _ => rfl
def wC (d : D) (_ : DE) (M : Mem) (Q : WK) : Prop := Q d M
instance lf_cn : LfE K E Ξ (tC .non) (wC .non) := ⟨fun {_ _ _} q {_ F G H} _ s _ {_} k => k _ _ _ F H q Ext.refl s rfl⟩
instance lf_cb {b : Bool} : LfE K E Ξ (tC (.bl b)) (wC (.bl b)) := ⟨fun {_ _ _} q {_ F G H} _ s _ {_} k => k _ _ _ F H q Ext.refl s rfl⟩
instance lf_ci {i : Int} : LfE K E Ξ (tC (.int i)) (wC (.int i)) := ⟨fun {_ _ _} q {_ F G H} _ s _ {_} k => k _ _ _ F H q Ext.refl s rfl⟩
instance lf_cs {x : Str} : LfE K E Ξ (tC (.str x)) (wC (.str x)) := ⟨fun {_ _ _} q {_ F G H} _ s _ {_} k => k _ _ _ F H q Ext.refl s rfl⟩
instance lf_cr {a : Addr} : LfE K E Ξ (tC (.ref a)) (wC (.ref a)) := ⟨fun {_ _ _} q {_ F G H} _ s _ {_} k => k _ _ _ F H q Ext.refl s rfl⟩
instance lf_ct {n : String} : LfE K E Ξ (tC (.ty n)) (wC (.ty n)) := ⟨fun {_ _ _} q {_ F G H} _ s _ {_} k => k _ _ _ F H q Ext.refl s rfl⟩

/-! ### operators: by values -/
abbrev WR2 := D → D → Mem → WK → Prop
class LfR (K : Frag) (E : XK) (Ξ : WX) (r : R2) (w : outParam WR2) : Prop where
  run : ∀ {x y : D} {M : Mem} {Q : WK}, w x y M Q → ∀ {F G H : Hp} {v u : V}, Sat K F M G H → EOk K F G Ξ E → Den K F x v → Den K F y u → ∀ {R : VK}, (∀ d M' v F' H', Q d M' → Ext F F' → Sat K F' M' G H' → Den K F' d v → R v H') → r v u H R
def wOp (r : WR2) (wa wb : WE) (δ : DE) (M : Mem) (Q : WK) : Prop := wa δ M fun x M1 => wb δ M1 fun y M2 => r x y M2 Q
instance lf_op {r : R2} {w : WR2} [a : LfE K E Ξ ta wa] [b : LfE K E Ξ tb wb] [l : LfR K E Ξ r w] : LfE K E Ξ (tOp r ta tb) (wOp w wa wb) := ⟨fun {δ M Q} h {σ F G H} e s o {R} k =>
  a.run h e s o fun x M1 v F1 H1 h1 x1 s1 d1 => b.run h1 (e.ext x1) s1 (o.ext x1) fun y M2 u F2 H2 h2 x2 s2 d2 =>
    l.run h2 s2 ((o.ext x1).ext x2) (d1.ext x2) d2 fun d M3 z F3 H3 h3 x3 s3 d3 => k d M3 z F3 H3 h3 ((x1.trans x2).trans x3) s3 d3⟩
def wUn (r : D → Mem → WK → Prop) (wa : WE) (δ : DE) (M : Mem) (Q : WK) : Prop := wa δ M fun x M1 => r x M1 Q
class LfU (K : Frag) (E : XK) (Ξ : WX) (r : V → Hp → VK → Prop) (w : outParam (D → Mem → WK → Prop)) : Prop where
  run : ∀ {x : D} {M : Mem} {Q : WK}, w x M Q → ∀ {F G H : Hp} {v : V}, Sat K F M G H → EOk K F G Ξ E → Den K F x v → ∀ {R : VK}, (∀ d M' v F' H', Q d M' → Ext F F' → Sat K F' M' G H' → Den K F' d v → R v H') → r v H R
instance lf_un {r : V → Hp → VK → Prop} {w : D → Mem → WK → Prop} [a : LfE K E Ξ ta wa] [l : LfU K E Ξ r w] : LfE K E Ξ (tUn r ta) (wUn w wa) := ⟨fun {δ M Q} h {σ F G H} e s o {R} k =>
  a.run h e s o fun x M1 v F1 H1 h1 x1 s1 d1 => l.run h1 s1 (o.ext x1) d1 fun d M3 z F3 H3 h3 x3 s3 d3 => k d M3 z F3 H3 h3 (x1.trans x3) s3 d3⟩

/-! ### arguments, displays -/
def wNil (_ : DE) (M : Mem) (Q : List D → Mem → Prop) : Prop := Q [] M
def wCons (we : WE) (wl : WA) (δ : DE) (M : Mem) (Q : List D → Mem → Prop) : Prop := we δ M fun x M1 => wl δ M1 fun xs M2 => Q (x :: xs) M2
instance lf_nil : LfA K E Ξ tNil wNil := ⟨fun {_ _ _} q {_ F G H} _ s _ {_} k => k _ _ _ F H q Ext.refl s rfl⟩
instance lf_cons [a : LfE K E Ξ te we] [b : LfA K E Ξ tl wl] : LfA K E Ξ (tCons te tl) (wCons we wl) := ⟨fun {δ M Q} h {σ F G H} e s o {R} k =>
  a.run h e s o fun x M1 v F1 H1 h1 x1 s1 d1 => b.run h1 (e.ext x1) s1 (o.ext x1) fun xs M2 vs F2 H2 h2 x2 s2 d2 => k _ M2 _ F2 H2 h2 (x1.trans x2) s2 ⟨v, vs, rfl, d1.ext x2, d2⟩⟩
def wTup (wl : WA) (δ : DE) (M : Mem) (Q : WK) : Prop := wl δ M fun xs M1 => xs.length ≤ sizeLine ∧ Q (.tup xs) M1
instance lf_tup [a : LfA K E Ξ tl wl] : LfE K E Ξ (tTup tl) (wTup wl) := ⟨fun {δ M Q} h {σ F G H} e s o {R} k =>
  a.run h e s o fun xs M1 vs F1 H1 ⟨hz, h1⟩ x1 s1 d1 => ⟨by rw [← d1.len]; exact hz, fun p np =>
    k _ M1 _ (upd F1 p (.tup vs)) _ h1 (x1.trans (Ext.new (s1.freshF np))) (s1.new np) ⟨p, vs, rfl, SqT.of upd_same, d1.ext (Ext.new (s1.freshF np))⟩⟩⟩
def wLst (wl : WA) (δ : DE) (M : Mem) (Q : WK) : Prop := wl δ M fun xs M1 => xs.length ≤ sizeLine ∧ Q (.lst xs) M1
instance lf_lst [a : LfA K E Ξ tl wl] : LfE K E Ξ (tLst tl) (wLst wl) := ⟨fun {δ M Q} h {σ F G H} e s o {R} k =>
  a.run h e s o fun xs M1 vs F1 H1 ⟨hz, h1⟩ x1 s1 d1 => ⟨by rw [← d1.len]; exact hz, fun p np =>
    k _ M1 _ (upd F1 p (.lst vs)) _ h1 (x1.trans (Ext.new (s1.freshF np))) (s1.new np) ⟨p, vs, rfl, SqL.of upd_same, d1.ext (Ext.new (s1.freshF np))⟩⟩⟩
/-- the same, where the list will be changed -/
def tLstC (t : TA) : TE := tLst t
def wLstC (wl : WA) (δ : DE) (M : Mem) (Q : WK) : Prop := wl δ M fun xs M1 => xs.length ≤ sizeLine ∧ ∀ p, M1 p = none → Q (.ref p) (mset M1 p (· = .lst xs))
instance lf_lstC [a : LfA K E Ξ tl wl] : LfE K E Ξ (tLstC tl) (wLstC wl) := ⟨fun {δ M Q} h {σ F G H} e s o {R} k =>
  a.run h e s o fun xs M1 vs F1 H1 ⟨hz, h1⟩ x1 s1 d1 => ⟨by rw [← d1.len]; exact hz, fun p np =>
    k _ _ _ F1 _ (h1 p (s1.freshM np)) x1 (s1.cell np ⟨_, rfl, vs, rfl, d1⟩) rfl⟩⟩

/-! ### tests -/
def wTest (w : WE) (δ : DE) (M : Mem) (Q : Bool → Mem → Prop) : Prop := w δ M fun x M1 => ∃ k, x = .bl k ∧ Q k M1
instance lf_test [a : LfE K E Ξ te we] : LfT K E Ξ (tTest te) (wTest we) := ⟨fun {δ M Q} h {σ F G H} e s o {R} k =>
  a.run h e s o fun x M1 v F1 H1 ⟨b, e1, h1⟩ x1 s1 d1 => by subst e1; exact ⟨b, d1, k b M1 F1 H1 h1 x1 s1⟩⟩
instance lf_testB [a : LfE K E Ξ te we] : LfT K E Ξ (tB te) (wTest we) := ⟨fun {δ M Q} h {σ F G H} e s o {R} k =>
  a.run h e s o fun x M1 v F1 H1 ⟨b, e1, h1⟩ x1 s1 d1 => by subst e1; exact ⟨b, d1, k b M1 F1 H1 h1 x1 s1⟩⟩
def wAnd (t u : WT) (δ : DE) (M : Mem) (Q : Bool → Mem → Prop) : Prop := t δ M fun b M1 => if b = true then u δ M1 Q else Q false M1
def wOr (t u : WT) (δ : DE) (M : Mem) (Q : Bool → Mem → Prop) : Prop := t δ M fun b M1 => if b = true then Q true M1 else u δ M1 Q
def wNot (t : WT) (δ : DE) (M : Mem) (Q : Bool → Mem → Prop) : Prop := t δ M fun b M1 => Q (!b) M1
instance lf_and [a : LfT K E Ξ t wt] [b : LfT K E Ξ u wu] : LfT K E Ξ (tAnd t u) (wAnd wt wu) := ⟨fun {δ M Q} h {σ F G H} e s o {R} k =>
  a.run h e s o fun z M1 F1 H1 h1 x1 s1 => by
    cases z with
    | true =>
      rw [if_pos rfl] at h1 ⊢
      exact b.run h1 (e.ext x1) s1 (o.ext x1) fun z M2 F2 H2 h2 x2 s2 => k z M2 F2 H2 h2 (x1.trans x2) s2
    | false => exact k _ _ _ _ h1 x1 s1⟩
instance lf_or [a : LfT K E Ξ t wt] [b : LfT K E Ξ u wu] : LfT K E Ξ (tOr t u) (wOr wt wu) := ⟨fun {δ M Q} h {σ F G H} e s o {R} k =>
  a.run h e s o fun z M1 F1 H1 h1 x1 s1 => by
    cases z with
    | true => exact k _ _ _ _ h1 x1 s1
    | false => exact b.run h1 (e.ext x1) s1 (o.ext x1) fun z M2 F2 H2 h2 x2 s2 => k z M2 F2 H2 h2 (x1.trans x2) s2⟩
instance lf_not [a : LfT K E Ξ t wt] : LfT K E Ξ (tNot t) (wNot wt) := ⟨fun {δ M Q} h {σ F G H} e s o {R} k => a.run h e s o fun z M1 F1 H1 h1 x1 s1 => k _ _ _ _ h1 x1 s1⟩
def wIf (t : WT) (wa wb : WE) (δ : DE) (M : Mem) (Q : WK) : Prop := t δ M fun b M1 => if b = true then wa δ M1 Q else wb δ M1 Q
instance lf_if [c : LfT K E Ξ t wt] [a : LfE K E Ξ ta wa] [b : LfE K E Ξ tb wb] : LfE K E Ξ (tIf t ta tb) (wIf wt wa wb) := ⟨fun {δ M Q} h {σ F G H} e s o {R} k =>
  c.run h e s o fun z M1 F1 H1 h1 x1 s1 => by
    cases z with
    | true => exact a.run h1 (e.ext x1) s1 (o.ext x1) fun d M2 v F2 H2 h2 x2 s2 d2 => k d M2 v F2 H2 h2 (x1.trans x2) s2 d2
    | false => exact b.run h1 (e.ext x1) s1 (o.ext x1) fun d M2 v F2 H2 h2 x2 s2 d2 => k d M2 v F2 H2 h2 (x1.trans x2) s2 d2⟩
/-- and, or, not as values (bools) -/
def wAndV (wa wb : WE) (δ : DE) (M : Mem) (Q : WK) : Prop := wa δ M fun x M1 => ∃ c, x = .bl c ∧ if c = true then wb δ M1 Q else Q (.bl false) M1
def wOrV (wa wb : WE) (δ : DE) (M : Mem) (Q : WK) : Prop := wa δ M fun x M1 => ∃ c, x = .bl c ∧ if c = true then Q (.bl true) M1 else wb δ M1 Q
def wNotV (wa : WE) (δ : DE) (M : Mem) (Q : WK) : Prop := wa δ M fun x M1 => ∃ c, x = .bl c ∧ Q (.bl (!c)) M1
instance lf_andV [a : LfE K E Ξ ta wa] [b : LfE K E Ξ tb wb] : LfE K E Ξ (tAndV ta tb) (wAndV wa wb) := ⟨fun {δ M Q} h {σ F G H} e s o {R} k =>
  a.run h e s o fun x M1 v F1 H1 ⟨c, e1, h1⟩ x1 s1 d1 => by
    subst e1
    refine ⟨c, d1, ?_⟩
    cases c with
    | true =>
      rw [if_pos rfl] at h1 ⊢
      exact b.run h1 (e.ext x1) s1 (o.ext x1) fun d M2 v F2 H2 h2 x2 s2 d2 => k d M2 v F2 H2 h2 (x1.trans x2) s2 d2
    | false => exact k _ _ _ _ _ h1 x1 s1 rfl⟩
instance lf_orV [a : LfE K E Ξ ta wa] [b : LfE K E Ξ tb wb] : LfE K E Ξ (tOrV ta tb) (wOrV wa wb) := ⟨fun {δ M Q} h {σ F G H} e s o {R} k =>
  a.run h e s o fun x M1 v F1 H1 ⟨c, e1, h1⟩ x1 s1 d1 => by
    subst e1
    refine ⟨c, d1, ?_⟩
    cases c with
    | true =>
      rw [if_pos rfl] at h1 ⊢
      exact k _ _ _ _ _ h1 x1 s1 rfl
    | false => exact b.run h1 (e.ext x1) s1 (o.ext x1) fun d M2 v F2 H2 h2 x2 s2 d2 => k d M2 v F2 H2 h2 (x1.trans x2) s2 d2⟩
instance lf_notV [a : LfE K E Ξ ta wa] : LfE K E Ξ (tNotV ta) (wNotV wa) := ⟨fun {δ M Q} h {σ F G H} e s o {R} k =>
  a.run h e s o fun x M1 v F1 H1 ⟨c, e1, h1⟩ x1 s1 d1 => by subst e1; exact ⟨c, d1, k _ _ _ _ _ h1 x1 s1 rfl⟩⟩

/-! ### statements -/
def wNext (D : WEnds) (δ : DE) (M : Mem) : Prop := D.nx δ M
/-- what comes behind is not looked at yet -/
def wHold (w : WS) (D : WEnds) (δ : DE) (M : Mem) : Prop := w D δ M
theorem wHold.go {w : WS} {D : WEnds} {δ : DE} {M : Mem} (h : w D δ M) : wHold w D δ M := h
def wSeq (ws wr : WS) (D : WEnds) (δ : DE) (M : Mem) : Prop := ws { D with nx := wHold wr D } δ M
instance lf_next : LfS K E Ξ tNext wNext := ⟨fun {_ _ _} h {σ F G H N} e s o k => k.nx _ _ σ F H h Ext.refl e s⟩
instance lf_seq [a : LfS K E Ξ ts ws] [b : LfS K E Ξ us wr] : LfS K E Ξ (tSeq ts us) (wSeq ws wr) := ⟨fun {D δ M} h {σ F G H N} e s o k =>
  a.run h e s o ⟨fun δ' M' σ' F' H' q x e' s' => b.run q e' s' (o.ext x) (k.ext x), k.rt, k.bk, k.ct⟩⟩
def wBreak (D : WEnds) (δ : DE) (M : Mem) : Prop := D.bk δ M
def wCont (D : WEnds) (δ : DE) (M : Mem) : Prop := D.ct δ M
instance lf_break : LfS K E Ξ tBreak wBreak := ⟨fun {_ _ _} h {σ F G H N} e s o k => k.bk _ _ σ F H h Ext.refl e s⟩
instance lf_cont : LfS K E Ξ tCont wCont := ⟨fun {_ _ _} h {σ F G H N} e s o k => k.ct _ _ σ F H h Ext.refl e s⟩
def wNever (_ : WEnds) (_ : DE) (_ : Mem) : Prop := False
instance lf_never : LfS K E Ξ tNever wNever := ⟨fun {_ _ _} h {_ _ _ _ _} _ _ _ _ => h⟩
def wDrop (we : WE) (D : WEnds) (δ : DE) (M : Mem) : Prop := we δ M fun _ M1 => D.nx δ M1
instance lf_drop [a : LfE K E Ξ te we] : LfS K E Ξ (tDrop te) (wDrop we) := ⟨fun {D δ M} h {σ F G H N} e s o k =>
  a.run h e s o fun d M1 v F1 H1 h1 x1 s1 d1 => k.nx _ _ σ F1 H1 h1 x1 (e.ext x1) s1⟩
def wRet (we : WE) (D : WEnds) (δ : DE) (M : Mem) : Prop := we δ M D.rt
instance lf_ret [a : LfE K E Ξ te we] : LfS K E Ξ (tRet te) (wRet we) := ⟨fun {D δ M} h {σ F G H N} e s o k =>
  a.run h e s o fun d M1 v F1 H1 h1 x1 s1 d1 => k.rt d M1 v F1 H1 h1 x1 s1 d1⟩
def wRetN (D : WEnds) (_ : DE) (M : Mem) : Prop := D.rt .non M
instance lf_retN : LfS K E Ξ tRetN wRetN := ⟨fun {D δ M} h {σ F G H N} e s o k => k.rt _ _ _ F H h Ext.refl s rfl⟩
def wIfS (c : WT) (ws wr : WS) (D : WEnds) (δ : DE) (M : Mem) : Prop := c δ M fun b M1 => if b = true then ws D δ M1 else wr D δ M1
instance lf_ifS [c : LfT K E Ξ t wt] [a : LfS K E Ξ ts ws] [b : LfS K E Ξ us wr] : LfS K E Ξ (tIfS t ts us) (wIfS wt ws wr) := ⟨fun {D δ M} h {σ F G H N} e s o k =>
  c.run h e s o fun z M1 F1 H1 h1 x1 s1 => by
    cases z with
    | true => exact a.run h1 (e.ext x1) s1 (o.ext x1) (k.ext x1)
    | false => exact b.run h1 (e.ext x1) s1 (o.ext x1) (k.ext x1)⟩
/-! ### targets -/
abbrev WG := D → DE → Mem → (DE → Mem → Prop) → Prop
/-- but for the slots sl -/
def Keeps (sl : List Nat) (σ σ' : St) : Prop := ∀ ws : List Nat, (∀ i, i ∈ sl → i ∈ ws) → L2.wipe σ' ws = L2.wipe σ ws
theorem wipe_out {σ : St} {i : Nat} {v : Option V} : ∀ {ws : List Nat}, i ∉ ws → L2.wipe (σ.set i v) ws = (L2.wipe σ ws).set i v
  | [], _ => rfl
  | w :: ws, hw => by
    have h1 : i ≠ w := fun q => hw (by rw [q]; exact List.mem_cons_self)
    have h2 : i ∉ ws := fun q => hw (List.mem_cons_of_mem _ q)
    show (L2.wipe (σ.set i v) ws).set w none = ((L2.wipe σ ws).set w none).set i v
    rw [wipe_out h2, List.set_comm _ _ h1]
theorem wipe_in {σ : St} {i : Nat} {v : Option V} : ∀ {vs : List Nat}, i ∈ vs → L2.wipe (σ.set i v) vs = L2.wipe σ vs
  | [], h => absurd h (by simp)
  | j :: vs, h => by
    show (L2.wipe (σ.set i v) vs).set j none = (L2.wipe σ vs).set j none
    by_cases e : i ∈ vs
    · rw [wipe_in e]
    · have ej : i = j := by
        rcases List.mem_cons.mp h with h | h
        · exact h
        · exact absurd h e
      subst ej
      rw [wipe_out e, List.set_set]
theorem wipe_wipe {σ : St} : ∀ {vs : List Nat}, L2.wipe (L2.wipe σ vs) vs = L2.wipe σ vs := by
  have key : ∀ (us vs : List Nat), (∀ i, i ∈ us → i ∈ vs) → L2.wipe (L2.wipe σ us) vs = L2.wipe σ vs := by
    intro us
    induction us with
    | nil => intro vs _; rfl
    | cons u us ih =>
      intro vs h
      show L2.wipe ((L2.wipe σ us).set u none) vs = _
      rw [wipe_in (h u List.mem_cons_self), ih vs fun i hi => h i (List.mem_cons_of_mem _ hi)]
  intro vs
  exact key vs vs fun _ h => h
theorem Keeps.refl {sl : List Nat} {σ : St} : Keeps sl σ σ := fun _ _ => rfl
theorem Keeps.app {s1 s2 : List Nat} {σ τ υ : St} (a : Keeps s1 σ τ) (b : Keeps s2 τ υ) : Keeps (s1 ++ s2) σ υ := fun ws h => (b ws fun i hi => h i (List.mem_append_right _ hi)).trans (a ws fun i hi => h i (List.mem_append_left _ hi))
class LfG (K : Frag) (E : XK) (Ξ : WX) (g : TG) (w : outParam WG) (sl : outParam (List Nat)) : Prop where
  run : ∀ {x : D} {δ : DE} {M : Mem} {Q : DE → Mem → Prop}, w x δ M Q → ∀ {σ : St} {F G H : Hp} {v : V}, EnvOk K F δ σ → Sat K F M G H → EOk K F G Ξ E → Den K F x v → ∀ {R : St → Hp → Prop}, (∀ δ' M' σ' F' H', Q δ' M' → Ext F F' → EnvOk K F' δ' σ' → Sat K F' M' G H' → Keeps sl σ σ' → R σ' H') → g v σ H R
abbrev WGs := List D → DE → Mem → (DE → Mem → Prop) → Prop
class LfGs (K : Frag) (E : XK) (Ξ : WX) (g : TGs) (w : outParam WGs) (sl : outParam (List Nat)) : Prop where
  run : ∀ {xs : List D} {δ : DE} {M : Mem} {Q : DE → Mem → Prop}, w xs δ M Q → ∀ {σ : St} {F G H : Hp} {vs : List V}, EnvOk K F δ σ → Sat K F M G H → EOk K F G Ξ E → DenL K F xs vs → ∀ {R : St → Hp → Prop}, (∀ δ' M' σ' F' H', Q δ' M' → Ext F F' → EnvOk K F' δ' σ' → Sat K F' M' G H' → Keeps sl σ σ' → R σ' H') → g vs σ H R
def wName (i : Nat) (x : D) (δ : DE) (M : Mem) (Q : DE → Mem → Prop) : Prop := Q (δ.set i (some x)) M
instance lf_name {i : Nat} : LfG K E Ξ (gName i) (wName i) [i] := ⟨fun {_ _ _ _} h {σ F G H v} e s o d {R} k => k _ _ _ F H h Ext.refl (e.set d) s fun ws h => wipe_in (h i List.mem_cons_self)⟩
def wGNil (xs : List D) (δ : DE) (M : Mem) (Q : DE → Mem → Prop) : Prop := xs = [] ∧ Q δ M
def wGCons (g : WG) (gs : WGs) (xs : List D) (δ : DE) (M : Mem) (Q : DE → Mem → Prop) : Prop := ∃ x r, xs = x :: r ∧ g x δ M fun δ' M' => gs r δ' M' Q
instance lf_gnil : LfGs K E Ξ gNil wGNil [] := ⟨fun {_ _ _ _} ⟨h1, h⟩ {σ F G H v} e s o d {R} k => by subst h1; exact ⟨d, k _ _ _ F H h Ext.refl e s Keeps.refl⟩⟩
instance lf_gcons {g : TG} {gs : TGs} {wg : WG} {wgs : WGs} {s1 s2 : List Nat} [a : LfG K E Ξ g wg s1] [b : LfGs K E Ξ gs wgs s2] : LfGs K E Ξ (gCons g gs) (wGCons wg wgs) (s1 ++ s2) := ⟨fun {_ _ _ _} ⟨x, r, h1, h⟩ {σ F G H vs} e s o d {R} k => by
  subst h1
  obtain ⟨v, vr, e1, d1, d2⟩ := d
  exact ⟨v, vr, e1, a.run h e s o d1 fun δ' M' σ' F' H' q x1 e' s' k1 => b.run q e' s' (o.ext x1) (d2.ext x1) fun δ2 M2 σ2 F2 H2 q2 x2 e2 s2 k2 => k δ2 M2 σ2 F2 H2 q2 (x1.trans x2) e2 s2 (k1.app k2)⟩⟩
def wGTup (n : Nat) (g : WGs) (x : D) (δ : DE) (M : Mem) (Q : DE → Mem → Prop) : Prop := ∃ xs, x = .tup xs ∧ xs.length = n ∧ g xs δ M Q
instance lf_gtup {n : Nat} {g : TGs} {w : WGs} {sl : List Nat} [a : LfGs K E Ξ g w sl] : LfG K E Ξ (gTup K n g) (wGTup n w) sl := ⟨fun {_ _ _ _} ⟨xs, h1, h2, h⟩ {σ F G H v} e s o d {R} k => by
  subst h1
  obtain ⟨p, vs, e1, q, dl⟩ := d
  exact ⟨p, vs, e1, sqt_ext s.sub q, by rw [← dl.len, h2], a.run h e s o dl k⟩⟩
def wAsg (we : WE) (g : WG) (D : WEnds) (δ : DE) (M : Mem) : Prop := we δ M fun x M1 => g x δ M1 D.nx
instance lf_asg {g : TG} {w : WG} {sl : List Nat} [a : LfE K E Ξ te we] [b : LfG K E Ξ g w sl] : LfS K E Ξ (tAsg te g) (wAsg we w) := ⟨fun {D δ M} h {σ F G H N} e s o k =>
  a.run h e s o fun d M1 v F1 H1 h1 x1 s1 d1 => b.run h1 (e.ext x1) s1 (o.ext x1) d1 fun δ2 M2 σ2 F2 H2 q2 x2 e2 s2 _ => k.nx δ2 M2 σ2 F2 H2 q2 (x1.trans x2) e2 s2⟩
def wPar (i j : Nat) (wl : WA) (D : WEnds) (δ : DE) (M : Mem) : Prop := wl δ M fun xs M1 => ∃ x y, xs = [x, y] ∧ D.nx ((δ.set i (some x)).set j (some y)) M1
instance lf_par {i j : Nat} [a : LfA K E Ξ tl wl] : LfS K E Ξ (tPar i j tl) (wPar i j wl) := ⟨fun {D δ M} h {σ F G H N} e s o k =>
  a.run h e s o fun ds M1 vs F1 H1 ⟨x, y, e1, h1⟩ x1 s1 d1 => by
    subst e1
    obtain ⟨v, r, rfl, dx, u, r2, rfl, dy, rfl⟩ := d1
    exact ⟨v, u, rfl, k.nx _ _ _ F1 H1 h1 x1 (((e.ext x1).set dx).set dy) s1⟩⟩
end
end DL
set_option Elab.async false
set_option linter.all false
set_option maxRecDepth 100000
namespace DL
open PySem L2 PyProof.Rows
/-! ### operators, by values: several rules at once -/
theorem OpR.or {X : Cx} {f : Value → Value → Sem Value} {r r' : R2} (h : OpR X f r) (h' : OpR X f r') : OpR X f (fun x y H Q => r x y H Q ∨ r' x y H Q) := by
  intro pins s σ H x y v u Q I rx ry q
  rcases q with q | q
  · exact h pins s σ H x y v u Q I rx ry q
  · exact h' pins s σ H x y v u Q I rx ry q
def rCatL (K : Frag) : R2 := fun x y H Q => ∃ l b xs zs, x = .ref l ∧ y = .ref b ∧ SqL K H l xs ∧ SqL K H b zs ∧ xs.length + zs.length ≤ sizeLine ∧ ∀ p, H p = none → Q (.ref p) (upd H p (.lst (xs ++ zs)))
theorem op_catL {X : Cx} : OpR X (binaryOp .Add) (rCatL X.K) := by
  intro pins s σ H x y v u Q I rx ry h
  obtain ⟨l, b, xs, zs, rfl, rfl, hH, hB, hz, q⟩ := h
  cases rx
  cases ry
  obtain ⟨its, r, ⟨⟨c1, c2, c3, c4⟩, n, e, d1, d2, d3⟩, z1⟩ := I.list hH
  obtain ⟨its2, r2, ⟨⟨g1, g2, g3, g4⟩, n2, e2, f1, f2, f3⟩, z2⟩ := I.list hB
  simp only at d1 d2 d3 f1 f2 f3
  subst d1 d2 d3 f1 f2 f3
  have hl := r.length
  have hl2 := r2.length
  have ea : its.toArray ++ its2.toArray = (its ++ its2).toArray := by simp
  refine concat_meets ⟨_, e, rfl⟩ ⟨_, e2, rfl⟩ noFill_list_add seq_list_add PySem.F.slot_list_add PySem.F.entry_list_add (PySem.F.args_list_add_2 _ _)
    (list_addW l b its.toArray its2.toArray n n2 none none c4 g4 (by simp only [List.size_toArray]; omega)) ⟨e, e2, ?_⟩
  rw [ea]
  exact ⟨.ref _, _, I.lnew (t' := s.toks) (r.append r2) (by rw [List.length_append]; omega), rfl, q _ I.fresh⟩
/-- + -/
def rAddS : R2 := fun x y H Q => ∃ i j, x = .str i ∧ y = .str j ∧ i.length + j.length ≤ sizeLine ∧ Q (.str (i ++ j)) H
def rAddA (K : Frag) : R2 := fun x y H Q => (rI0 (fun i j => .int (i + j)) x y H Q ∨ rAddS x y H Q) ∨ (rCatL K x y H Q ∨ rCatA K x y H Q)
theorem op_addA {X : Cx} : OpR X (binaryOp .Add) (rAddA X.K) := OpR.or (OpR.or op_add op_add_str) (OpR.or op_catL op_catA)
/-- a list by value, or a cell that holds one -/
def LstAt (M : Mem) (x : D) (ds : List D) : Prop := x = .lst ds ∨ ∃ p, x = .ref p ∧ M p = some (· = .lst ds)
section
variable {K : Frag} {E : XK} {Ξ : WX} {F G H : Hp} {M : Mem} {x : D} {v : V} {ds : List D}
theorem lst_at (s : Sat K F M G H) (d : Den K F x v) (h : LstAt M x ds) : ∃ p xs, v = .ref p ∧ SqL K H p xs ∧ DenL K F ds xs := by
  rcases h with rfl | ⟨p, rfl, h⟩
  · obtain ⟨p, xs, e, q, dl⟩ := d
    exact ⟨p, xs, e, sql_ext s.sub q, dl⟩
  · obtain ⟨ho, h1, mb, h2, h3⟩ := s.mem p _ h
    subst h2
    obtain ⟨xs, rfl, dl⟩ := h3
    exact ⟨p, xs, d, SqL.of h1, dl⟩
def wAdd (x : D) (y : D) (M : Mem) (Q : WK) : Prop := match x, y with
  | .int i, .int j => Q (.int (i + j)) M
  | .str a, .str b => a.length + b.length ≤ sizeLine ∧ Q (.str (a ++ b)) M
  | .lst a, .lst b => a.length + b.length ≤ sizeLine ∧ Q (.lst (a ++ b)) M
  | .tup a, .tup b => a.length + b.length ≤ sizeLine ∧ Q (.tup (a ++ b)) M
  | .ref p, .lst b => ∃ a, M p = some (· = .lst a) ∧ a.length + b.length ≤ sizeLine ∧ Q (.lst (a ++ b)) M
  | .lst a, .ref p => ∃ b, M p = some (· = .lst b) ∧ a.length + b.length ≤ sizeLine ∧ Q (.lst (a ++ b)) M
  | .ref p, .ref q => ∃ a b, M p = some (· = .lst a) ∧ M q = some (· = .lst b) ∧ a.length + b.length ≤ sizeLine ∧ Q (.lst (a ++ b)) M
  | _, _ => False
theorem catL_run {y : D} {u : V} {es : List D} {Q : WK} {R : VK} (s : Sat K F M G H) (dx : Den K F x v) (dy : Den K F y u) (hx : LstAt M x ds) (hy : LstAt M y es) (hz : ds.length + es.length ≤ sizeLine) (q : Q (.lst (ds ++ es)) M)
    (k : ∀ d M' v F' H', Q d M' → Ext F F' → Sat K F' M' G H' → Den K F' d v → R v H') : rAddA K v u H R := by
  obtain ⟨p, xs, rfl, q1, d1⟩ := lst_at s dx hx
  obtain ⟨p2, ys, rfl, q2, d2⟩ := lst_at s dy hy
  refine .inr (.inl ⟨p, p2, xs, ys, rfl, rfl, q1, q2, by rw [← d1.len, ← d2.len]; exact hz, fun r nr => ?_⟩)
  have ex := Ext.new (o := .lst (xs ++ ys)) (s.freshF nr)
  exact k _ M _ _ _ q ex (s.new nr) ⟨r, _, rfl, SqL.of upd_same, (d1.append d2).ext ex⟩
instance lf_addA : LfR K E Ξ (rAddA K) wAdd := ⟨fun {x y M Q} h {F G H v u} s o dx dy {R} k => by
  cases x with
  | int i => cases y with
    | int j => cases dx; cases dy; exact .inl (.inl ⟨i, j, rfl, rfl, k _ M _ F H h Ext.refl s rfl⟩)
    | _ => exact h.elim
  | str a => cases y with
    | str b => cases dx; cases dy; exact .inl (.inr ⟨a, b, rfl, rfl, h.1, k _ M _ F H h.2 Ext.refl s rfl⟩)
    | _ => exact h.elim
  | lst a => cases y with
    | lst b => exact catL_run s dx dy (.inl rfl) (.inl rfl) h.1 h.2 k
    | ref p => obtain ⟨b, e, h1, h2⟩ := h; exact catL_run s dx dy (.inl rfl) (.inr ⟨p, rfl, e⟩) h1 h2 k
    | _ => exact h.elim
  | ref p => cases y with
    | lst b => obtain ⟨a, e, h1, h2⟩ := h; exact catL_run s dx dy (.inr ⟨p, rfl, e⟩) (.inl rfl) h1 h2 k
    | ref q => obtain ⟨a, b, e, e2, h1, h2⟩ := h; exact catL_run s dx dy (.inr ⟨p, rfl, e⟩) (.inr ⟨q, rfl, e2⟩) h1 h2 k
    | _ => exact h.elim
  | tup a => cases y with
    | tup b =>
      obtain ⟨p, xs, rfl, q1, d1⟩ := dx
      obtain ⟨p2, ys, rfl, q2, d2⟩ := dy
      refine .inr (.inr ⟨p, p2, xs, ys, rfl, rfl, sqt_ext s.sub q1, sqt_ext s.sub q2, by rw [← d1.len, ← d2.len]; exact h.1, fun e => ?_, fun _ e => ?_, fun _ _ r nr => ?_⟩)
      · subst e
        have ea : a = [] := by cases a with
          | nil => rfl
          | cons _ _ => obtain ⟨_, _, e, _⟩ := d1; cases e
        subst ea
        exact k _ M _ F H h.2 Ext.refl s ⟨p2, ys, rfl, q2, d2⟩
      · subst e
        have eb : b = [] := by cases b with
          | nil => rfl
          | cons _ _ => obtain ⟨_, _, e, _⟩ := d2; cases e
        subst eb
        exact k _ M _ F H h.2 Ext.refl s ⟨p, xs, rfl, q1, by rw [List.append_nil]; exact d1⟩
      · have ex := Ext.new (o := .tup (xs ++ ys)) (s.freshF nr)
        exact k _ M _ _ _ h.2 ex (s.new nr) ⟨r, _, rfl, SqT.of upd_same, (d1.append d2).ext ex⟩
    | _ => exact h.elim
  | _ => exact h.elim⟩
/-- two ints -/
def wII (C : Int → Int → Prop) (g : Int → Int → D) (x : D) (y : D) (M : Mem) (Q : WK) : Prop := match x, y with
  | .int i, .int j => C i j ∧ Q (g i j) M
  | _, _ => False
def wII0 (g : Int → Int → D) (x : D) (y : D) (M : Mem) (Q : WK) : Prop := match x, y with
  | .int i, .int j => Q (g i j) M
  | _, _ => False
instance lf_II {C : Int → Int → Prop} {g : Int → Int → Int} : LfR K E Ξ (rI C fun i j => .int (g i j)) (wII C fun i j => .int (g i j)) := ⟨fun {x y M Q} h {F G H v u} s o dx dy {R} k => by
  cases x with
  | int i => cases y with
    | int j => cases dx; cases dy; exact ⟨i, j, rfl, rfl, h.1, k _ M _ F H h.2 Ext.refl s rfl⟩
    | _ => exact h.elim
  | _ => exact h.elim⟩
instance lf_II0 {g : Int → Int → Int} : LfR K E Ξ (rI0 fun i j => .int (g i j)) (wII0 fun i j => .int (g i j)) := ⟨fun {x y M Q} h {F G H v u} s o dx dy {R} k => by
  cases x with
  | int i => cases y with
    | int j => cases dx; cases dy; exact ⟨i, j, rfl, rfl, k _ M _ F H h Ext.refl s rfl⟩
    | _ => exact h.elim
  | _ => exact h.elim⟩
def rNeg : V → Hp → VK → Prop := fun x H Q => ∃ i, x = .int i ∧ Q (.int (-i)) H
theorem op_neg {X : Cx} : UnR X (unaryOp .USub) rNeg := un_neg
def wNeg (x : D) (M : Mem) (Q : WK) : Prop := match x with
  | .int i => Q (.int (-i)) M
  | _ => False
instance lf_neg : LfU K E Ξ rNeg wNeg := ⟨fun {x M Q} h {F G H v} s o dx {R} k => by
  cases x with
  | int i => cases dx; exact ⟨i, rfl, k _ M _ F H h Ext.refl s rfl⟩
  | _ => exact h.elim⟩
/-! ### comparisons -/
/-- <, <=, >, >= of ints, of texts -/
def rCmpS (g : Str → Str → Bool) : R2 := fun x y H Q => ∃ i j, x = .str i ∧ y = .str j ∧ Q (.bl (g i j)) H
def rCmp (f : Int → Int → Bool) (g : Str → Str → Bool) : R2 := fun x y H Q => rI0 (fun i j => .bl (f i j)) x y H Q ∨ rCmpS g x y H Q
def ltS (i j : Str) : Bool := decide (i.cps.toList < j.cps.toList)
theorem op_ltA {X : Cx} : OpR X (compareOp .Lt) (rCmp (fun i j => decide (i < j)) fun i j => ltS i j) := OpR.or op_lt op_lt_str
theorem op_leA {X : Cx} : OpR X (compareOp .LtE) (rCmp (fun i j => decide (i ≤ j)) fun i j => !ltS j i) := OpR.or op_le op_le_str
theorem op_gtA {X : Cx} : OpR X (compareOp .Gt) (rCmp (fun i j => decide (j < i)) fun i j => ltS j i) := OpR.or op_gt op_gt_str
theorem op_geA {X : Cx} : OpR X (compareOp .GtE) (rCmp (fun i j => decide (j ≤ i)) fun i j => !ltS i j) := OpR.or op_ge op_ge_str
def wCmp (f : Int → Int → Bool) (g : Str → Str → Bool) (x : D) (y : D) (M : Mem) (Q : WK) : Prop := match x, y with
  | .int i, .int j => Q (.bl (f i j)) M
  | .str i, .str j => Q (.bl (g i j)) M
  | _, _ => False
instance lf_cmp {f : Int → Int → Bool} {g : Str → Str → Bool} : LfR K E Ξ (rCmp f g) (wCmp f g) := ⟨fun {x y M Q} h {F G H v u} s o dx dy {R} k => by
  cases x with
  | int i => cases y with
    | int j => cases dx; cases dy; exact .inl ⟨i, j, rfl, rfl, k _ M _ F H h Ext.refl s rfl⟩
    | _ => exact h.elim
  | str i => cases y with
    | str j => cases dx; cases dy; exact .inr ⟨i, j, rfl, rfl, k _ M _ F H h Ext.refl s rfl⟩
    | _ => exact h.elim
  | _ => exact h.elim⟩
/-! data that == compares -/
mutual
def toPy : D → Option PyData
  | .non => some .none
  | .bl b => some (.bool b)
  | .int i => some (.int i)
  | .str x => some (.str x)
  | .tup l => (toPyL l).map .tuple
  | .lst l => (toPyL l).map .list
  | _ => none
def toPyL : List D → Option (List PyData)
  | [] => some []
  | d :: r => match toPy d, toPyL r with
    | some x, some xs => some (x :: xs)
    | _, _ => none
end
mutual
theorem dp_of {F H : Hp} (e : Ext F H) : ∀ {d : D} {v : V} {p : PyData}, Den K F d v → toPy d = some p → Dp K H v p
  | .non, _, _, h, q => by cases h; cases q; exact .non
  | .bl b, _, _, h, q => by cases h; cases q; exact .bl b
  | .int i, _, _, h, q => by cases h; cases q; exact .int i
  | .str x, _, _, h, q => by cases h; cases q; exact .str x
  | .tup l, _, _, ⟨a, xs, h1, h2, h3⟩, q => by
    obtain ⟨ps, e1, e2⟩ := Option.map_eq_some_iff.mp (show (toPyL l).map PyData.tuple = some _ from q)
    subst h1 e2
    exact .tup (sqt_ext e h2) (dpL_of e h3 e1)
  | .lst l, _, _, ⟨a, xs, h1, h2, h3⟩, q => by
    obtain ⟨ps, e1, e2⟩ := Option.map_eq_some_iff.mp (show (toPyL l).map PyData.list = some _ from q)
    subst h1 e2
    exact .lst (sql_ext e h2) (dpL_of e h3 e1)
  | .ref _, _, _, _, q => nomatch q
  | .ty _, _, _, _, q => nomatch q
  | .dic _ _, _, _, _, q => nomatch q
  | .obj _ _ _, _, _, _, q => nomatch q
theorem dpL_of {F H : Hp} (e : Ext F H) : ∀ {l : List D} {xs : List V} {ps : List PyData}, DenL K F l xs → toPyL l = some ps → DpAll K H xs ps
  | [], _, _, h, q => by rw [show _ = [] from h]; cases q; exact .nil
  | d :: r, _, _, ⟨x, xs, h1, h2, h3⟩, q => by
    subst h1
    have q' : (match toPy d, toPyL r with
      | some x, some xs => some (x :: xs)
      | _, _ => none) = some _ := q
    cases e1 : toPy d with
    | none => rw [e1] at q'; cases q'
    | some p => cases e2 : toPyL r with
      | none => rw [e1, e2] at q'; cases q'
      | some ps => rw [e1, e2] at q'; cases q'; exact .cons (dp_of e h2 e1) (dpL_of e h3 e2)
end
def scalD : D → D → Option Bool
  | .non, .non => some true
  | .non, .int _ => some false | .int _, .non => some false | .non, .bl _ => some false | .bl _, .non => some false | .non, .str _ => some false | .str _, .non => some false
  | .int i, .int j => some (decide (i = j)) | .bl i, .bl j => some (i == j) | .str i, .str j => some (decide (i = j))
  | .int _, .str _ => some false | .str _, .int _ => some false | .bl _, .str _ => some false | .str _, .bl _ => some false
  | _, _ => none
def rEqA (K : Frag) : R2 := fun x y H Q => rEq x y H Q ∨ rEqD K x y H Q
def rNeA (K : Frag) : R2 := fun x y H Q => rNe x y H Q ∨ rNeD K x y H Q
theorem op_eqA {X : Cx} (hu : X.A.units + 64 < cLine) : OpR X (compareOp .Eq) (rEqA X.K) := OpR.or op_eq (op_eqD hu)
theorem op_neA {X : Cx} (hu : X.A.units + 64 < cLine) : OpR X (compareOp .NotEq) (rNeA X.K) := OpR.or op_ne (op_neD hu)
/-- == of scalars at once; of other data by PyData -/
def eqW (neg : Bool) : WR2 := fun x y M Q => match scalD x y with
  | some b => Q (.bl (if neg then !b else b)) M
  | none => ∃ d e, toPy x = some d ∧ toPy y = some e ∧ SeqAt.shaped d = true ∧ SeqAt.shaped e = true ∧ Q (.bl (if neg then !PyData.eqv d e else PyData.eqv d e)) M
theorem scal_of {x y : D} {v u : V} {b : Bool} (dx : Den K F x v) (dy : Den K F y u) (h : scalD x y = some b) : scal v u = true ∧ decide (v = u) = b := by
  cases x <;> cases y <;> first | (cases h; done) | (cases dx; cases dy; cases h; refine ⟨rfl, ?_⟩; first | rfl | (rw [Bool.eq_iff_iff]; simp))
instance lf_eqA : LfR K E Ξ (rEqA K) (eqW false) := ⟨fun {x y M Q} h {F G H v u} s o dx dy {R} k => by
  unfold eqW at h
  cases e : scalD x y with
  | some b =>
    rw [e] at h
    obtain ⟨h1, h2⟩ := scal_of dx dy e
    refine .inl ⟨h1, ?_⟩
    rw [h2]
    exact k _ M _ F H h Ext.refl s rfl
  | none =>
    rw [e] at h
    obtain ⟨p, q, e1, e2, s1, s2, h⟩ := h
    exact .inr ⟨p, q, dp_of s.sub dx e1, dp_of s.sub dy e2, s1, s2, k _ M _ F H h Ext.refl s rfl⟩⟩
instance lf_neA : LfR K E Ξ (rNeA K) (eqW true) := ⟨fun {x y M Q} h {F G H v u} s o dx dy {R} k => by
  unfold eqW at h
  cases e : scalD x y with
  | some b =>
    rw [e] at h
    obtain ⟨h1, h2⟩ := scal_of dx dy e
    refine .inl ⟨h1, ?_⟩
    rw [h2]
    exact k _ M _ F H h Ext.refl s rfl
  | none =>
    rw [e] at h
    obtain ⟨p, q, e1, e2, s1, s2, h⟩ := h
    exact .inr ⟨p, q, dp_of s.sub dx e1, dp_of s.sub dy e2, s1, s2, k _ M _ F H h Ext.refl s rfl⟩⟩
/-- is None, is not None -/
def rIsNo (neg : Bool) : R2 := fun x y H Q => y = .non ∧ Q (.bl (if neg then !decide (x = .non) else decide (x = .non))) H
theorem op_isNo {X : Cx} : OpR X (compareOp .Is) (rIsNo false) := op_isN
theorem op_isNotNo {X : Cx} : OpR X (compareOp .IsNot) (rIsNo true) := op_notN
def isNon : D → Bool
  | .non => true
  | _ => false
def wIsNo (neg : Bool) (x : D) (y : D) (M : Mem) (Q : WK) : Prop := isNon y = true ∧ Q (.bl (if neg then !isNon x else isNon x)) M
theorem den_isNon {x : D} {v : V} (d : Den K F x v) : decide (v = .non) = isNon x := by
  cases x with
  | non => cases d; rfl
  | bl _ => cases d; rfl
  | int _ => cases d; rfl
  | str _ => cases d; rfl
  | ref _ => cases d; rfl
  | ty _ => cases d; rfl
  | tup _ => obtain ⟨_, _, rfl, _⟩ := d; rfl
  | lst _ => obtain ⟨_, _, rfl, _⟩ := d; rfl
  | dic _ _ => obtain ⟨_, _, rfl, _⟩ := d; rfl
  | obj _ _ _ => obtain ⟨_, _, _, rfl, _⟩ := d; rfl
instance lf_isNo {neg : Bool} : LfR K E Ξ (rIsNo neg) (wIsNo neg) := ⟨fun {x y M Q} h {F G H v u} s o dx dy {R} k => by
  refine ⟨?_, ?_⟩
  · have := den_isNon dy
    rw [h.1] at this
    exact of_decide_eq_true this
  · rw [den_isNon dx]
    exact k _ M _ F H h.2 Ext.refl s rfl⟩
/-- in, not in -/
def rInSub (neg : Bool) : R2 := fun x y H Q => ∃ i j, x = .str i ∧ y = .str j ∧ Q (.bl (if neg then !(!(Builtin.Str.occurrences j i 0 j.length 1).isEmpty) else !(Builtin.Str.occurrences j i 0 j.length 1).isEmpty)) H
def rInSgn (neg : Bool) : R2 := fun x y H Q => ∃ (c : Nat) (z : Str), x = .str ⟨#[c]⟩ ∧ y = .str z ∧ Q (.bl (if neg then !decide (c ∈ z.cps.toList) else decide (c ∈ z.cps.toList))) H
def rInD (neg : Bool) : R2 := fun y x H Q => ∃ a o, x = .ref a ∧ DGet H a y o ∧ Q (.bl (if neg then !o.isSome else o.isSome)) H
def rInA (K : Frag) (neg : Bool) : R2 := fun x y H Q => (rIn K neg x y H Q ∨ rInD neg x y H Q) ∨ (rInSgn neg x y H Q ∨ rInSub neg x y H Q)
theorem op_inD {X : Cx} (hu : X.A.units + 1 < cLine) : OpR X (compareOp .In) (rInD false) := by
  intro pins s σ H x y v u Q I rx ry h
  obtain ⟨a, o, rfl, g, q⟩ := h
  obtain rfl : u = Value.ref a := ry
  exact d_in hu I g rx fun s3 I3 => ⟨.bl o.isSome, H, I3, rfl, q⟩
theorem op_notInD {X : Cx} (hu : X.A.units + 1 < cLine) : OpR X (compareOp .NotIn) (rInD true) := by
  intro pins s σ H x y v u Q I rx ry h
  obtain ⟨a, o, rfl, g, q⟩ := h
  obtain rfl : u = Value.ref a := ry
  exact d_notIn hu I g rx fun s3 I3 => ⟨.bl (!o.isSome), H, I3, rfl, q⟩
theorem op_inA {X : Cx} (hu : X.A.units + 1 < cLine) : OpR X (compareOp .In) (rInA X.K false) := OpR.or (OpR.or op_in_seq (op_inD hu)) (OpR.or op_in_sign op_in_str)
theorem op_notInA {X : Cx} (hu : X.A.units + 1 < cLine) : OpR X (compareOp .NotIn) (rInA X.K true) := OpR.or (OpR.or op_notIn_seq (op_notInD hu)) (OpR.or op_notIn_sign op_notIn_str)
/-- a text in a text -/
def inStr (i j : Str) : Bool := if i.cps.size = 1 then decide (i.cps.getD 0 0 ∈ j.cps.toList) else !(Builtin.Str.occurrences j i 0 j.length 1).isEmpty
def flatD : D → Bool
  | .non => true | .bl _ => true | .int _ => true | .str _ => true
  | _ => false
def eqF : D → D → Bool
  | .non, .non => true
  | .bl a, .bl b => a == b
  | .bl a, .int b => (if a then 1 else 0) == b
  | .int a, .bl b => a == (if b then 1 else 0)
  | .int a, .int b => a == b
  | .str a, .str b => a == b
  | _, _ => false
theorem flat_of {x : D} {v : V} (d : Den K F x v) (h : flatD x = true) : flatV v = true := by
  cases x <;> first | (cases d; rfl) | (cases h)
theorem eqF_of {x y : D} {v u : V} (dx : Den K F x v) (dy : Den K F y u) (hx : flatD x = true) (hy : flatD y = true) : eqV v u = eqF x y := by
  cases x <;> first | (cases hx; done) | (cases dx; cases y <;> first | (cases hy; done) | (cases dy; rfl))
theorem flatL_of : ∀ {l : List D} {xs : List V}, DenL K F l xs → l.all flatD = true → xs.all flatV = true
  | [], _, h, _ => by rw [show _ = [] from h]; rfl
  | d :: r, _, ⟨x, xs, h1, h2, h3⟩, q => by
    subst h1
    rw [List.all_cons, Bool.and_eq_true] at q ⊢
    exact ⟨flat_of h2 q.1, flatL_of h3 q.2⟩
theorem inF_of {x : D} {v : V} (dx : Den K F x v) (hx : flatD x = true) : ∀ {l : List D} {xs : List V}, DenL K F l xs → l.all flatD = true → inV v xs = l.any fun y => eqF y x
  | [], _, h, _ => by rw [show _ = [] from h]; rfl
  | d :: r, _, ⟨y, ys, h1, h2, h3⟩, q => by
    subst h1
    rw [List.all_cons, Bool.and_eq_true] at q
    show (eqV y v || inV v ys) = (eqF d x || r.any fun y => eqF y x)
    rw [eqF_of h2 dx q.1 hx, inF_of dx hx h3 q.2]
def keyOf : D → Option Key
  | .int i => some (.inl i)
  | .str x => some (.inr x)
  | _ => none
theorem key_of {x : D} {v : V} {k : Key} (d : Den K F x v) (h : keyOf x = some k) : v = kV k := by
  cases x <;> first | (cases h; done) | (cases d; cases h; rfl)
def lk {κ α : Type} [DecidableEq κ] : List (κ × α) → κ → Option α
  | [], _ => none
  | p :: r, k => if p.1 = k then some p.2 else lk r k
theorem lk_valV {κ : Type} [DecidableEq κ] : ∀ (l : List (κ × V)) (k : κ), valV l k = lk l k
  | [], _ => rfl
  | p :: r, k => by
    unfold lk
    by_cases e : p.1 = k
    · rw [if_pos e, valV_pos e]
    · rw [if_neg e, valV_neg e, lk_valV r k]
theorem lk_den {κ : Type} [DecidableEq κ] : ∀ {l : List (κ × D)} {xs : List (κ × V)} (k : κ), DenP K F l xs → (∀ d, lk l k = some d → ∃ v, lk xs k = some v ∧ Den K F d v) ∧ ((lk xs k).isSome = (lk l k).isSome)
  | [], xs, k, ⟨h1, h2⟩ => by
    have : xs = [] := by
      have := congrArg List.length h1
      simpa using this.symm
    subst this
    exact ⟨fun d e => (nomatch e), rfl⟩
  | p :: r, xs, k, ⟨h1, h2⟩ => by
    cases xs with
    | nil => cases h1
    | cons q xs =>
      simp only [List.map_cons, List.cons.injEq] at h1
      obtain ⟨x, rr, e1, d1, d2⟩ := h2
      simp only [List.map_cons, List.cons.injEq] at e1
      obtain ⟨rfl, rfl⟩ := e1
      unfold lk
      by_cases e : p.1 = k
      · rw [if_pos e, if_pos (h1.1.symm.trans e)]
        exact ⟨fun d z => by cases z; exact ⟨_, rfl, d1⟩, rfl⟩
      · rw [if_neg e, if_neg (fun z => e (h1.1.trans z))]
        exact lk_den k ⟨h1.2, d2⟩
theorem den_zip {κ : Type} {ks : List κ} {l : List D} {xs : List V} (h : ks.length = xs.length) (d : DenL K F l xs) : DenP K F (ks.zip l) (ks.zip xs) := by
  have hl := d.len
  refine ⟨?_, ?_⟩
  · rw [List.map_fst_zip (by omega), List.map_fst_zip (by omega)]
  · rw [List.map_snd_zip (by omega), List.map_snd_zip (by omega)]
    exact d
def inL (x : D) (l : List D) : Option Bool := if flatD x && l.all flatD then some (l.any fun y => eqF y x) else none
def inM (x : D) (mb : MB) : Option Bool := match mb with
  | .lst l => inL x l
  | .dic kvs => (keyOf x).map fun k => (lk kvs k).isSome
  | .ins _ _ => none
def inD (x y : D) : Option Bool := match y with
  | .str j => (match x with
    | .str i => some (inStr i j)
    | _ => none)
  | .lst l => inL x l
  | .tup l => inL x l
  | .dic ks l => (keyOf x).map fun k => (lk (ks.zip l) k).isSome
  | _ => none
def wIn (neg : Bool) (x y : D) (M : Mem) (Q : WK) : Prop := match y with
  | .ref p => ∃ φ, M p = some φ ∧ ∀ mb, φ mb → ∃ b, inM x mb = some b ∧ Q (.bl (if neg then !b else b)) (mset M p (· = mb))
  | y => ∃ b, inD x y = some b ∧ Q (.bl (if neg then !b else b)) M
theorem inL_some {x : D} {l : List D} {b : Bool} (h : inL x l = some b) : flatD x = true ∧ l.all flatD = true ∧ b = l.any fun y => eqF y x := by
  unfold inL at h
  by_cases e : (flatD x && l.all flatD) = true
  · rw [if_pos e] at h
    cases h
    exact ⟨(Bool.and_eq_true_iff.mp e).1, (Bool.and_eq_true_iff.mp e).2, rfl⟩
  · rw [if_neg e] at h; cases h
instance lf_in {neg : Bool} : LfR K E Ξ (rInA K neg) (wIn neg) := ⟨fun {x y M Q} h {F G H v u} s o dx dy {R} k => by
  cases y with
  | str j =>
    obtain ⟨b, e, h⟩ := h
    cases x with
    | str i =>
      cases dx; cases dy
      have eb : inStr i j = b := Option.some.inj (show some (inStr i j) = some b from e)
      subst eb
      unfold inStr at h
      by_cases e : i.cps.size = 1
      · simp only [if_pos e] at h
        obtain ⟨c, hc⟩ : ∃ c, i = ⟨#[c]⟩ := by
          obtain ⟨⟨l⟩⟩ := i
          match l, e with
          | [c], _ => exact ⟨c, rfl⟩
        subst hc
        exact .inr (.inl ⟨c, j, rfl, rfl, k _ M _ F H h Ext.refl s rfl⟩)
      · simp only [if_neg e] at h
        exact .inr (.inr ⟨i, j, rfl, rfl, k _ M _ F H h Ext.refl s rfl⟩)
    | _ => cases e
  | lst l =>
    obtain ⟨b, e, h⟩ := h
    obtain ⟨f1, f2, rfl⟩ := inL_some (show inL x l = some b from e)
    obtain ⟨p, xs, rfl, q, d⟩ := dy
    refine .inl (.inl ⟨p, xs, rfl, .inl (sql_ext s.sub q), flat_of dx f1, flatL_of d f2, ?_⟩)
    rw [inF_of dx f1 d f2]
    exact k _ M _ F H h Ext.refl s rfl
  | tup l =>
    obtain ⟨b, e, h⟩ := h
    obtain ⟨f1, f2, rfl⟩ := inL_some (show inL x l = some b from e)
    obtain ⟨p, xs, rfl, q, d⟩ := dy
    refine .inl (.inl ⟨p, xs, rfl, .inr (sqt_ext s.sub q), flat_of dx f1, flatL_of d f2, ?_⟩)
    rw [inF_of dx f1 d f2]
    exact k _ M _ F H h Ext.refl s rfl
  | dic ks l =>
    obtain ⟨b, e, h⟩ := h
    obtain ⟨kk, f1, eb⟩ := Option.map_eq_some_iff.mp (show ((keyOf x).map fun k => (lk (ks.zip l) k).isSome) = some b from e)
    subst eb
    obtain ⟨p, xs, rfl, q, hl, d⟩ := dy
    have e := key_of dx f1
    subst e
    refine .inl (.inr ⟨p, _, rfl, DGet.k (k := kk) (s.sub _ _ q), ?_⟩)
    rw [lk_valV, (lk_den kk (den_zip hl d)).2]
    exact k _ M _ F H h Ext.refl s rfl
  | ref p =>
    obtain ⟨φ, hp, h⟩ := h
    obtain ⟨mb, ho, g1, g2, g3, s'⟩ := s.tell hp
    obtain ⟨b, e, h⟩ := h mb g1
    cases dy
    cases mb with
    | lst l =>
      obtain ⟨f1, f2, rfl⟩ := inL_some (show inL x l = some b from e)
      obtain ⟨xs, rfl, d⟩ := g3
      refine .inl (.inl ⟨p, xs, rfl, .inl (SqL.of g2), flat_of dx f1, flatL_of d f2, ?_⟩)
      rw [inF_of dx f1 d f2]
      exact k _ _ _ F H h Ext.refl s' rfl
    | dic kvs =>
      obtain ⟨kk, f1, eb⟩ := Option.map_eq_some_iff.mp (show ((keyOf x).map fun k => (lk kvs k).isSome) = some b from e)
      subst eb
      obtain ⟨xs, rfl, d⟩ := g3
      have e := key_of dx f1
      subst e
      refine .inl (.inr ⟨p, _, rfl, DGet.k (k := kk) g2, ?_⟩)
      rw [lk_valV, (lk_den kk d).2]
      exact k _ _ _ F H h Ext.refl s' rfl
    | ins _ _ => cases e
  | _ => obtain ⟨b, e, h⟩ := h; cases e⟩
/-! ### subscripts -/
def rIxD : R2 := fun x y H Q => ∃ a v, x = .ref a ∧ DGet H a y (some v) ∧ Q v H
theorem ix_dict {X : Cx} (hu : X.A.units + 1 < cLine) : IxR X rIxD := by
  intro value slice pins s σ H x y v u Q I rx ry h hs
  obtain ⟨a, z, rfl, g, q⟩ := h
  obtain rfl : v = Value.ref a := rx
  exact tail_any (dict_typeIs I g) PySem.F.slot_dict_getitem.lookup (d_getItem hu I g ry fun w' s' I' rw' => ⟨z, H, I', rw', q⟩) hs
def rIxA (K : Frag) : R2 := fun x y H Q => rIx K x y H Q ∨ rIxD x y H Q
theorem ix_all {X : Cx} (hu : X.A.units + 1 < cLine) : IxR X (rIxA X.K) := ix_seq.or (ix_dict hu)
/-- an item, a dict's value -/
def ixD (x y : D) : Option D := match x, y with
  | .lst l, .int i => atI l i
  | .tup l, .int i => atI l i
  | .dic ks l, y => (keyOf y).bind fun k => lk (ks.zip l) k
  | _, _ => none
def ixM (mb : MB) (y : D) : Option D := match mb, y with
  | .lst l, .int i => atI l i
  | .dic kvs, y => (keyOf y).bind fun k => lk kvs k
  | _, _ => none
def wIx (x y : D) (M : Mem) (Q : WK) : Prop := match x with
  | .str z => ∃ i c, y = .int i ∧ z.length ≤ sizeLine ∧ atI z.cps.toList i = some c ∧ Q (.str ⟨#[c]⟩) M
  | .ref p => ∃ φ, M p = some φ ∧ ∀ mb, φ mb → ∃ d, ixM mb y = some d ∧ Q d (mset M p (· = mb))
  | x => ∃ d, ixD x y = some d ∧ Q d M
theorem atI_den {l : List D} {xs : List V} {i : Int} {d : D} (h : DenL K F l xs) (e : atI l i = some d) : ∃ v, atI xs i = some v ∧ Den K F d v := by
  unfold atI at e ⊢
  rw [← h.len]
  obtain ⟨j, e1, e2⟩ := Option.bind_eq_some_iff.mp e
  obtain ⟨v, h1, h2⟩ := h.get e2
  exact ⟨v, by rw [e1]; exact h1, h2⟩
instance lf_ix : LfR K E Ξ (rIxA K) wIx := ⟨fun {x y M Q} h {F G H v u} s o dx dy {R} k => by
  cases x with
  | lst l =>
    obtain ⟨d, e, h⟩ := h
    cases y with
    | int i =>
      obtain ⟨p, xs, rfl, q, dl⟩ := dx
      cases dy
      obtain ⟨w, e2, dw⟩ := atI_den dl e
      exact .inl (.inl ⟨p, xs, i, w, rfl, rfl, sql_ext s.sub q, e2, k _ M _ F H h Ext.refl s dw⟩)
    | _ => cases e
  | tup l =>
    obtain ⟨d, e, h⟩ := h
    cases y with
    | int i =>
      obtain ⟨p, xs, rfl, q, dl⟩ := dx
      cases dy
      obtain ⟨w, e2, dw⟩ := atI_den dl e
      exact .inl (.inr (.inl ⟨p, xs, i, w, rfl, rfl, sqt_ext s.sub q, e2, k _ M _ F H h Ext.refl s dw⟩))
    | _ => cases e
  | str z =>
    obtain ⟨i, c, rfl, hz, e, h⟩ := h
    cases dx; cases dy
    exact .inl (.inr (.inr ⟨z, i, c, rfl, rfl, hz, e, k _ M _ F H h Ext.refl s rfl⟩))
  | dic ks l =>
    obtain ⟨d, e, h⟩ := h
    obtain ⟨kk, f1, e⟩ := Option.bind_eq_some_iff.mp (show ((keyOf y).bind fun k => lk (ks.zip l) k) = some d from e)
    obtain ⟨p, xs, rfl, q, hl, dl⟩ := dx
    have ek := key_of dy f1
    subst ek
    obtain ⟨w, e2, dw⟩ := (lk_den kk (den_zip hl dl)).1 d e
    refine .inr ⟨p, w, rfl, ?_, k _ M _ F H h Ext.refl s dw⟩
    have g := DGet.k (k := kk) (s.sub _ _ q)
    rw [lk_valV, e2] at g
    exact g
  | ref p =>
    obtain ⟨φ, hp, h⟩ := h
    obtain ⟨mb, ho, g1, g2, g3, s'⟩ := s.tell hp
    obtain ⟨d, e0, hq⟩ := h mb g1
    clear h
    cases dx
    cases mb with
    | lst l =>
      obtain ⟨xs, rfl, dl⟩ := g3
      cases y with
      | int i =>
        cases dy
        obtain ⟨w, e2, dw⟩ := atI_den dl e0
        exact .inl (.inl ⟨p, xs, i, w, rfl, rfl, SqL.of g2, e2, k _ _ _ F H hq Ext.refl s' dw⟩)
      | _ => cases e0
    | dic kvs =>
      obtain ⟨kk, f1, e⟩ := Option.bind_eq_some_iff.mp (show ((keyOf y).bind fun k => lk kvs k) = some d from e0)
      obtain ⟨xs, rfl, dl⟩ := g3
      have ek := key_of dy f1
      subst ek
      obtain ⟨w, e2, dw⟩ := (lk_den kk dl).1 d e
      refine .inr ⟨p, w, rfl, ?_, k _ _ _ F H hq Ext.refl s' dw⟩
      have g := DGet.k (k := kk) g2
      rw [lk_valV, e2] at g
      exact g
    | ins _ _ => cases y <;> cases e0
  | _ => obtain ⟨d, e, h⟩ := h; cases y <;> cases e⟩
/-! ### o[i] = v -/
theorem PSet.or {X : Cx} {t t' : TSet} (h : PSet X t) (h' : PSet X t') : PSet X (fun o i v H Q => t o i v H Q ∨ t' o i v H Q) := by
  intro pins s σ H o i v ov iv u Q I r1 r2 r3 q
  rcases q with q | q
  · exact h pins s σ H o i v ov iv u Q I r1 r2 r3 q
  · exact h' pins s σ H o i v ov iv u Q I r1 r2 r3 q
def rSetD : TSet := fun o i v H Q => ∃ a H', o = .ref a ∧ DPut H a i v H' ∧ Q H'
theorem set_dict {X : Cx} (hu : X.A.units + 1 < cLine) : PSet X rSetD := by
  intro pins s σ H o i v ov iv u Q I r1 r2 r3 h
  obtain ⟨a, H', rfl, g, q⟩ := h
  obtain rfl : ov = Value.ref a := r1
  exact d_setItem hu I g r2 r3 fun s4 I4 => ⟨H', I4, q⟩
def rSetA : TSet := fun o i v H Q => rSetL o i v H Q ∨ rSetD o i v H Q
theorem set_all {X : Cx} (hu : X.A.units + 1 < cLine) : PSet X rSetA := PSet.or set_list (set_dict hu)
def putD {κ : Type} [DecidableEq κ] (kvs : List (κ × D)) (k : κ) (v : D) : List (κ × D) :=
  if (kvs.any fun kv => decide (kv.1 = k)) = true then kvs.map (fun kv => if kv.1 = k then (kv.1, v) else kv) else kvs ++ [(k, v)]
theorem denP_cons {κ : Type} {p : κ × D} {r : List (κ × D)} {xs : List (κ × V)} (h : DenP K F (p :: r) xs) : ∃ v rs, xs = (p.1, v) :: rs ∧ Den K F p.2 v ∧ DenP K F r rs := by
  obtain ⟨h1, h2⟩ := h
  cases xs with
  | nil => cases h1
  | cons q xs =>
    simp only [List.map_cons, List.cons.injEq] at h1
    obtain ⟨x, rr, e1, d1, d2⟩ := h2
    simp only [List.map_cons, List.cons.injEq] at e1
    obtain ⟨q1, q2⟩ := q
    obtain ⟨rfl, rfl⟩ := e1
    obtain ⟨rfl, h3⟩ := h1
    exact ⟨_, xs, rfl, d1, h3, d2⟩
theorem DenP.cons {κ : Type} {k : κ} {d : D} {v : V} {r : List (κ × D)} {rs : List (κ × V)} (h : Den K F d v) (t : DenP K F r rs) : DenP K F ((k, d) :: r) ((k, v) :: rs) :=
  ⟨by rw [List.map_cons, List.map_cons, t.1], _, _, rfl, h, t.2⟩
theorem DenP.nil {κ : Type} : DenP K F ([] : List (κ × D)) ([] : List (κ × V)) := ⟨rfl, rfl⟩
theorem denP_nil {κ : Type} {xs : List (κ × V)} (h : DenP K F ([] : List (κ × D)) xs) : xs = [] := by
  have := congrArg List.length h.1
  simpa using this.symm
theorem denP_any {κ : Type} [DecidableEq κ] {k : κ} : ∀ {l : List (κ × D)} {xs : List (κ × V)}, DenP K F l xs → (xs.any fun kv => decide (kv.1 = k)) = (l.any fun kv => decide (kv.1 = k))
  | [], _, h => by rw [denP_nil h] <;> rfl
  | p :: r, _, h => by
    obtain ⟨v, rs, rfl, _, t⟩ := denP_cons h
    rw [List.any_cons, List.any_cons, denP_any t]
theorem denP_map {κ : Type} [DecidableEq κ] {k : κ} {d : D} {v : V} (hd : Den K F d v) : ∀ {l : List (κ × D)} {xs : List (κ × V)}, DenP K F l xs → DenP K F (l.map fun kv => if kv.1 = k then (kv.1, d) else kv) (xs.map fun kv => if kv.1 = k then (kv.1, v) else kv)
  | [], _, h => by rw [denP_nil h]; exact DenP.nil
  | p :: r, _, h => by
    obtain ⟨w, rs, rfl, dw, t⟩ := denP_cons h
    rw [List.map_cons, List.map_cons]
    by_cases e : p.1 = k
    · simp only [e, if_true]; exact DenP.cons hd (denP_map hd t)
    · simp only [e, if_false]; exact DenP.cons dw (denP_map hd t)
theorem DenP.append {κ : Type} : ∀ {l m : List (κ × D)} {xs ys : List (κ × V)}, DenP K F l xs → DenP K F m ys → DenP K F (l ++ m) (xs ++ ys)
  | [], _, _, _, h, g => by rw [denP_nil h]; exact g
  | p :: r, _, _, _, h, g => by
    obtain ⟨w, rs, rfl, dw, t⟩ := denP_cons h
    exact DenP.cons dw (DenP.append t g)
theorem denP_put {κ : Type} [DecidableEq κ] {k : κ} {d : D} {v : V} {l : List (κ × D)} {xs : List (κ × V)} (h : DenP K F l xs) (hd : Den K F d v) : DenP K F (putD l k d) (putK xs k v) := by
  unfold putD putK
  rw [denP_any h]
  by_cases e : (l.any fun kv => decide (kv.1 = k)) = true
  · rw [if_pos e, if_pos e]; exact denP_map hd h
  · rw [if_neg e, if_neg e]; exact h.append (DenP.cons hd DenP.nil)
theorem DenP.len {κ : Type} {l : List (κ × D)} {xs : List (κ × V)} (h : DenP K F l xs) : l.length = xs.length := by
  have := congrArg List.length h.1
  simpa using this
abbrev WSet := D → D → D → Mem → (Mem → Prop) → Prop
class LfSet (K : Frag) (E : XK) (Ξ : WX) (t : TSet) (w : outParam WSet) : Prop where
  run : ∀ {o i x : D} {M : Mem} {Q : Mem → Prop}, w o i x M Q → ∀ {F G H : Hp} {ov iv v : V}, Sat K F M G H → EOk K F G Ξ E → Den K F o ov → Den K F i iv → Den K F x v → ∀ {R : Hp → Prop}, (∀ M' F' H', Q M' → Ext F F' → Sat K F' M' G H' → R H') → t ov iv v H R
def setM (mb : MB) (i x : D) : Option MB := match mb, i with
  | .lst l, .int n => (ixN l.length n).map fun j => .lst (l.set j x)
  | .dic kvs, i => if kvs.length < sizeLine then (keyOf i).map fun k => .dic (putD kvs k x) else none
  | _, _ => none
def wSet (o i x : D) (M : Mem) (Q : Mem → Prop) : Prop := ∃ p, o = .ref p ∧ ∃ φ, M p = some φ ∧ ∀ mb, φ mb → ∃ mb', setM mb i x = some mb' ∧ Q (mset M p (· = mb'))
instance lf_set : LfSet K E Ξ rSetA wSet := ⟨fun {o i x M Q} h {F G H ov iv v} s oo d1 d2 d3 {R} k => by
  obtain ⟨p, rfl, φ, hp, h⟩ := h
  obtain ⟨ho, g2, mb, g1, g3⟩ := s.mem p _ hp
  obtain ⟨mb', e, h⟩ := h mb g1
  cases d1
  cases mb with
  | lst l =>
    cases i with
    | int n =>
      obtain ⟨j, ej, e⟩ := Option.map_eq_some_iff.mp (show ((ixN l.length n).map fun j => MB.lst (l.set j x)) = some mb' from e)
      subst e
      obtain ⟨xs, rfl, dl⟩ := g3
      cases d2
      refine .inl ⟨p, xs, n, j, rfl, rfl, g2, by rw [← dl.len]; exact ej, k _ _ _ h Ext.refl (s.write hp ⟨_, rfl, _, rfl, DenL.set d3 j dl⟩)⟩
    | _ => cases e
  | dic kvs =>
    have e : (if kvs.length < sizeLine then (keyOf i).map fun k => MB.dic (putD kvs k x) else none) = some mb' := e
    by_cases hz : kvs.length < sizeLine
    · rw [if_pos hz] at e
      obtain ⟨kk, ek, e⟩ := Option.map_eq_some_iff.mp e
      subst e
      obtain ⟨xs, rfl, dl⟩ := g3
      have ek := key_of d2 ek
      subst ek
      exact .inr ⟨p, _, rfl, DPut.k (k := kk) g2 (by rw [← dl.len]; exact hz), k _ _ _ h Ext.refl (s.write hp ⟨_, rfl, _, rfl, denP_put dl d3⟩)⟩
    · rw [if_neg hz] at e; cases e
  | ins _ _ => cases i <;> cases e⟩
def wGSub (wo wi : WE) (t : WSet) (x : D) (δ : DE) (M : Mem) (Q : DE → Mem → Prop) : Prop := wo δ M fun o M1 => wi δ M1 fun i M2 => t o i x M2 fun M3 => Q δ M3
instance lf_gsub {to ti : TE} {wo wi : WE} {t : TSet} {wt : WSet} [a : LfE K E Ξ to wo] [b : LfE K E Ξ ti wi] [c : LfSet K E Ξ t wt] : LfG K E Ξ (gSub to ti t) (wGSub wo wi wt) [] := ⟨fun {x δ M Q} h {σ F G H v} e s o d {R} k =>
  a.run h e s o fun od M1 ov F1 H1 h1 x1 s1 d1 => b.run h1 (e.ext x1) s1 (o.ext x1) fun id M2 iv F2 H2 h2 x2 s2 d2 =>
    c.run h2 s2 ((o.ext x1).ext x2) (d1.ext x2) d2 ((d.ext x1).ext x2) fun M3 F3 H3 h3 x3 s3 => k δ M3 σ F3 H3 h3 ((x1.trans x2).trans x3) (((e.ext x1).ext x2).ext x3) s3 Keeps.refl⟩
end
end DL
set_option Elab.async false
set_option linter.all false
set_option maxRecDepth 100000
namespace DL
open PySem L2 PyProof.Rows
section
variable {K : Frag} {E : XK} {Ξ : WX}
/-! ### what is walked -/
/-- the iterator gives these, whatever is added meanwhile -/
structure ItOk (K : Frag) (F : Hp) (J : It) (ds : List D) : Prop where
  go : ∀ (i : Nat) (F' : Hp) (M : Mem) (G H : Hp), i < ds.length → Ext F F' → Sat K F' M G H → J.go i H
  yld : ∀ (i : Nat) (F' : Hp) (M : Mem) (G H H2 : Hp) (x : V), i < ds.length → Ext F F' → Sat K F' M G H → J.yld i H x H2 → ∃ (d : D) (F2 : Hp), ds[i]? = some d ∧ Ext F' F2 ∧ Sat K F2 M G H2 ∧ Den K F2 d x
  stop : ∀ (F' : Hp) (M : Mem) (G H : Hp), Ext F F' → Sat K F' M G H → J.stop ds.length H
theorem ItOk.ext {F F' : Hp} {J : It} {ds : List D} (h : ItOk K F J ds) (e : Ext F F') : ItOk K F' J ds :=
  ⟨fun i F2 M G H l x s => h.go i F2 M G H l (e.trans x) s, fun i F2 M G H H2 x l y s q => h.yld i F2 M G H H2 x l (e.trans y) s q, fun F2 M G H x s => h.stop F2 M G H (e.trans x) s⟩
theorem it_list {F : Hp} {a : Addr} {xs : List V} {ds : List D} (q : SqL K F a xs) (d : DenL K F ds xs) : ItOk K F (Itl K a) ds where
  go := fun i F' M G H l e s => ⟨xs, xs[i]'(by rw [← d.len]; exact l), sql_ext s.sub (sql_ext e q), by rw [List.getElem?_eq_getElem]⟩
  yld := fun i F' M G H H2 x l e s y => by
    obtain ⟨e1, y⟩ := y
    subst e1
    obtain ⟨z, h1, h2⟩ := d.get' (y xs (sql_ext s.sub (sql_ext e q)))
    exact ⟨z, F', h1, Ext.refl, s, h2.ext e⟩
  stop := fun F' M G H e s => ⟨xs, sql_ext s.sub (sql_ext e q), by rw [d.len]; exact Nat.le_refl _⟩
theorem it_tup {F : Hp} {a : Addr} {xs : List V} {ds : List D} (q : SqT K F a xs) (d : DenL K F ds xs) : ItOk K F (Itt K a) ds where
  go := fun i F' M G H l e s => ⟨xs, xs[i]'(by rw [← d.len]; exact l), sqt_ext s.sub (sqt_ext e q), by rw [List.getElem?_eq_getElem]⟩
  yld := fun i F' M G H H2 x l e s y => by
    obtain ⟨e1, y⟩ := y
    subst e1
    obtain ⟨z, h1, h2⟩ := d.get' (y xs (sqt_ext s.sub (sqt_ext e q)))
    exact ⟨z, F', h1, Ext.refl, s, h2.ext e⟩
  stop := fun F' M G H e s => ⟨xs, sqt_ext s.sub (sqt_ext e q), by rw [d.len]; exact Nat.le_refl _⟩
def rngD (lo : Int) (n : Nat) : List D := (List.range n).map fun (i : Nat) => D.int (lo + (i : Int))
theorem rngD_len {lo : Int} {n : Nat} : (rngD lo n).length = n := by unfold rngD; rw [List.length_map, List.length_range]
theorem rngD_get {lo : Int} {n i : Nat} {d : D} (h : (rngD lo n)[i]? = some d) : i < n ∧ d = .int (lo + (i : Int)) := by
  have l : i < n := by
    have := (List.getElem?_eq_some_iff.mp h).1
    rwa [rngD_len] at this
  refine ⟨l, ?_⟩
  unfold rngD at h
  rw [List.getElem?_map, List.getElem?_range l] at h
  exact (Option.some.inj h).symm
theorem rngD_at {lo : Int} {n i : Nat} (h : i < n) : (rngD lo n)[i]? = some (.int (lo + (i : Int))) := by
  unfold rngD
  rw [List.getElem?_map, List.getElem?_range h]
  rfl
theorem it_rng {F : Hp} {lo : Int} {n : Nat} : ItOk K F (Itr lo n) (rngD lo n) where
  go := fun i F' M G H l e s => by rw [rngD_len] at l; exact l
  yld := fun i F' M G H H2 x l e s y => by
    obtain ⟨e1, y⟩ := y
    subst e1 y
    rw [rngD_len] at l
    exact ⟨_, F', rngD_at l, Ext.refl, s, rfl⟩
  stop := fun F' M G H e s => by rw [rngD_len]; exact Nat.le_refl _
def sgnD (x : Str) : List D := x.cps.toList.map fun c => D.str ⟨#[c]⟩
theorem it_str {F : Hp} {x : Str} : ItOk K F (Its x) (sgnD x) where
  go := fun i F' M G H l e s => by
    unfold sgnD at l
    show i < x.cps.size
    simpa using l
  yld := fun i F' M G H H2 v l e s y => by
    obtain ⟨e1, c, y1, y2⟩ := y
    subst e1 y2
    refine ⟨.str ⟨#[c]⟩, F', ?_, Ext.refl, s, rfl⟩
    unfold sgnD
    rw [List.getElem?_map, Array.getElem?_toList, y1]
    rfl
  stop := fun F' M G H e s => by
    show x.cps.size ≤ (sgnD x).length
    unfold sgnD
    simp
abbrev WI := DE → Mem → (List D → Mem → Prop) → Prop
class LfI (K : Frag) (E : XK) (Ξ : WX) (t : TI) (W : outParam WI) : Prop where
  run : ∀ {δ : DE} {M : Mem} {Q : List D → Mem → Prop}, W δ M Q → ∀ {σ : L2.St} {F G H : Hp}, EnvOk K F δ σ → Sat K F M G H → EOk K F G Ξ E → ∀ {R : It → Hp → Prop}, (∀ ds M' J F' H', Q ds M' → Ext F F' → Sat K F' M' G H' → ItOk K F' J ds → R J H') → t σ H R
/-- a list, a tuple, a text -/
def iSeq (K : Frag) (tl : TE) : TI := fun σ H R => tl σ H fun x H1 => (∃ a xs, x = .ref a ∧ SqL K H1 a xs ∧ R (Itl K a) H1) ∨ (∃ a xs, x = .ref a ∧ SqT K H1 a xs ∧ R (Itt K a) H1) ∨ ∃ z, x = .str z ∧ R (Its z) H1
theorem pi_seq {X : Cx} {tg l : Expr} {tl : TE} (hl : PE X l tl) : PI X tg l (iSeq X.K tl) := by
  refine ⟨fun pins s σ H R I h => ?_⟩
  refine thn (hl.run pins s σ H _ I h) fun v s1 ⟨x, H1, I1, r1, q1⟩ => ?_
  rcases q1 with ⟨a, xs, e, hq, q⟩ | ⟨a, xs, e, hq, q⟩ | ⟨z, e, q⟩
  · subst e
    cases r1
    obtain ⟨its, rv, p, hz⟩ := I1.list hq
    exact wpAny_pyIter_list p.isList (pi_one (tk := s1.toks) I1 _ (turn_list a _) ⟨_, Heap.get?_push_size _ rfl, rfl, rfl⟩ q)
  · subst e
    cases r1
    obtain ⟨its, rv, p, hz⟩ := I1.tuple hq
    exact wpAny_pyIter_tuple (show s1.heap.IsTuple a its.toArray from p) (pi_one (tk := s1.toks) I1 _ (turn_tuple a _) ⟨_, Heap.get?_push_size _ rfl, rfl, rfl⟩ q)
  · subst e
    obtain ⟨t, rfl⟩ := r1
    cases ha : z.cps.all (· < 128)
    · exact wpAny_pyIter_wide ha (pi_one (tk := s1.toks) I1 _ (turn_str _ z t "str_iterator" (.inr rfl)) ⟨_, Heap.get?_push_size _ rfl, rfl, rfl⟩ q)
    · exact wpAny_pyIter_ascii ha (pi_one (tk := s1.toks) I1 _ (turn_str _ z t "str_ascii_iterator" (.inl rfl)) ⟨_, Heap.get?_push_size _ rfl, rfl, rfl⟩ q)
def wSeqI (we : WE) (δ : DE) (M : Mem) (Q : List D → Mem → Prop) : Prop := we δ M fun x M1 => match x with
  | .lst l => Q l M1
  | .tup l => Q l M1
  | .str z => Q (sgnD z) M1
  | _ => False
variable {ta tb te : TE} {wa wb we : WE} {t u c : TT} {wt wu wc : WT} {tl : TA} {wl : WA} {ts us : TS} {ws wr : WS}
instance lf_seqI [a : LfE K E Ξ te we] : LfI K E Ξ (iSeq K te) (wSeqI we) := ⟨fun {δ M Q} h {σ F G H} e s o {R} k =>
  a.run h e s o fun x M1 v F1 H1 h1 x1 s1 d1 => by
    cases x with
    | lst l =>
      obtain ⟨p, xs, rfl, q, d⟩ := d1
      exact .inl ⟨p, xs, rfl, sql_ext s1.sub q, k l M1 _ F1 H1 h1 x1 s1 (it_list q d)⟩
    | tup l =>
      obtain ⟨p, xs, rfl, q, d⟩ := d1
      exact .inr (.inl ⟨p, xs, rfl, sqt_ext s1.sub q, k l M1 _ F1 H1 h1 x1 s1 (it_tup q d)⟩)
    | str z => cases d1; exact .inr (.inr ⟨z, rfl, k _ M1 _ F1 H1 h1 x1 s1 it_str⟩)
    | _ => exact h1.elim⟩
def wRng1 (wl : WA) (δ : DE) (M : Mem) (Q : List D → Mem → Prop) : Prop := wl δ M fun xs M1 => ∃ j : Int, xs = [.int j] ∧ -(2 ^ 62) ≤ j ∧ j < 2 ^ 62 ∧ Q (rngD 0 j.toNat) M1
instance lf_rng1 [a : LfA K E Ξ tl wl] : LfI K E Ξ (iRng1 tl) (wRng1 wl) := ⟨fun {δ M Q} h {σ F G H} e s o {R} k =>
  a.run h e s o fun ds M1 vs F1 H1 ⟨j, e1, h1, h2, h3⟩ x1 s1 d1 => by
    subst e1
    obtain ⟨_, _, rfl, rfl, rfl⟩ := d1
    exact ⟨j, rfl, h1, h2, k _ M1 _ F1 H1 h3 x1 s1 it_rng⟩⟩
def wRng2 (wl : WA) (δ : DE) (M : Mem) (Q : List D → Mem → Prop) : Prop := wl δ M fun xs M1 => ∃ i j : Int, xs = [.int i, .int j] ∧ (-(2 ^ 62) ≤ i ∧ i < 2 ^ 62 ∧ -(2 ^ 62) ≤ j ∧ j < 2 ^ 62) ∧ Q (rngD i (j - i).toNat) M1
instance lf_rng2 [a : LfA K E Ξ tl wl] : LfI K E Ξ (iRng2 tl) (wRng2 wl) := ⟨fun {δ M Q} h {σ F G H} e s o {R} k =>
  a.run h e s o fun ds M1 vs F1 H1 ⟨i, j, e1, h1, h3⟩ x1 s1 d1 => by
    subst e1
    obtain ⟨_, _, rfl, rfl, _, _, rfl, rfl, rfl⟩ := d1
    exact ⟨i, j, rfl, h1, k _ M1 _ F1 H1 h3 x1 s1 it_rng⟩⟩
/-! ### for -/
def wFor (wi : WI) (g : WG) (wb : WS) (D : WEnds) (δ : DE) (M : Mem) : Prop := wi δ M fun xs M1 => ∃ I : Nat → DE → Mem → Prop, I 0 δ M1 ∧
  (∀ i x δ M, xs[i]? = some x → I i δ M → g x δ M fun δ2 M2 => wb { D with nx := I (i + 1), ct := I (i + 1), bk := D.nx } δ2 M2) ∧ ∀ δ M, I xs.length δ M → D.nx δ M
instance lf_for {wi : TI} {Wi : WI} {g : TG} {wg : WG} [a : LfI K E Ξ wi Wi] {sl : List Nat} [b : LfG K E Ξ g wg sl] [cc : LfS K E Ξ ts ws] : LfS K E Ξ (tFor wi g ts) (wFor Wi wg ws) := ⟨fun {D δ M} h {σ F G H N} e s o k =>
  a.run h e s o fun xs M1 J F1 H1 ⟨I, i0, turn, done⟩ x1 s1 it => by
    refine ⟨fun i m σ H => m = xs.length - i ∧ i ≤ xs.length ∧ ∃ δ M F2, I i δ M ∧ Ext F1 F2 ∧ EnvOk K F2 δ σ ∧ Sat K F2 M G H, ⟨xs.length, by omega, Nat.zero_le _, δ, M1, F1, i0, Ext.refl, e.ext x1, s1⟩, ?_⟩
    rintro i m σ2 H2 ⟨rfl, hi, δ2, M2, F2, hI, x2, e2, s2⟩
    by_cases l : i < xs.length
    · refine .inr ⟨it.go i F2 M2 G H2 l x2 s2, fun σ3 H3 => ∃ δ3 M3 F3, I (i + 1) δ3 M3 ∧ Ext F1 F3 ∧ EnvOk K F3 δ3 σ3 ∧ Sat K F3 M3 G H3, fun σ3 H3 ⟨δ3, M3, F3, h3, x3, e3, s3⟩ => ⟨xs.length - (i + 1), by omega, rfl, l, δ3, M3, F3, h3, x3, e3, s3⟩, fun x H3 y => ?_⟩
      obtain ⟨d, F3, g1, g2, g3, g4⟩ := it.yld i F2 M2 G H2 H3 x l x2 s2 y
      have x13 := x2.trans g2
      refine b.run (turn i d δ2 M2 g1 hI) (e2.ext g2) g3 ((o.ext x1).ext x13) g4 fun δ4 M4 σ4 F4 H4 q4 x4 e4 s4 _ => ?_
      have x14 := x13.trans x4
      refine cc.run q4 e4 s4 ((o.ext x1).ext x14) ⟨fun δ5 M5 σ5 F5 H5 q5 x5 e5 s5 => ⟨δ5, M5, F5, q5, x14.trans x5, e5, s5⟩, fun d5 M5 v5 F5 H5 q5 x5 s5 d5 => k.rt _ _ _ F5 H5 q5 (x1.trans (x14.trans x5)) s5 d5, fun δ5 M5 σ5 F5 H5 q5 x5 e5 s5 => k.nx _ _ _ F5 H5 q5 (x1.trans (x14.trans x5)) e5 s5, fun δ5 M5 σ5 F5 H5 q5 x5 e5 s5 => ⟨δ5, M5, F5, q5, x14.trans x5, e5, s5⟩⟩
    · have ei : i = xs.length := by omega
      subst ei
      exact .inl ⟨it.stop F2 M2 G H2 x2 s2, k.nx _ _ _ F2 H2 (done δ2 M2 hI) (x1.trans x2) e2 s2⟩⟩
/-! ### while -/
def wWhile (c : WT) (wb : WS) (D : WEnds) (δ : DE) (M : Mem) : Prop := ∃ I : Nat → DE → Mem → Prop, (∃ m, I m δ M) ∧ ∀ m δ M, I m δ M → c δ M fun b M1 => if b = true then wb { D with nx := fun δ M => ∃ m', m' < m ∧ I m' δ M, ct := fun δ M => ∃ m', m' < m ∧ I m' δ M, bk := D.nx } δ M1 else D.nx δ M1
instance lf_while [cl : LfT K E Ξ t wt] [cc : LfS K E Ξ ts ws] : LfS K E Ξ (tWhile t ts) (wWhile wt ws) := ⟨fun {D δ M} ⟨I, ⟨m0, i0⟩, turn⟩ {σ F G H N} e s o k => by
  refine ⟨fun m σ H => ∃ δ M F2, I m δ M ∧ Ext F F2 ∧ EnvOk K F2 δ σ ∧ Sat K F2 M G H, ⟨m0, δ, M, F, i0, Ext.refl, e, s⟩, ?_⟩
  rintro m σ2 H2 ⟨δ2, M2, F2, hI, x2, e2, s2⟩
  refine cl.run (turn m δ2 M2 hI) e2 s2 (o.ext x2) fun b M3 F3 H3 h3 x3 s3 => ?_
  have x23 := x2.trans x3
  cases b with
  | true =>
    have h3 : ws _ δ2 M3 := h3
    refine ⟨fun σ H => ∃ m', m' < m ∧ ∃ δ M F2, I m' δ M ∧ Ext F F2 ∧ EnvOk K F2 δ σ ∧ Sat K F2 M G H, fun σ4 H4 h => h, ?_⟩
    exact cc.run h3 (e2.ext x3) s3 (o.ext x23) ⟨fun δ5 M5 σ5 F5 H5 ⟨m', l, q5⟩ x5 e5 s5 => ⟨m', l, δ5, M5, F5, q5, x23.trans x5, e5, s5⟩, fun d5 M5 v5 F5 H5 q5 x5 s5 d5 => k.rt _ _ _ F5 H5 q5 (x23.trans x5) s5 d5, fun δ5 M5 σ5 F5 H5 q5 x5 e5 s5 => k.nx _ _ _ F5 H5 q5 (x23.trans x5) e5 s5, fun δ5 M5 σ5 F5 H5 ⟨m', l, q5⟩ x5 e5 s5 => ⟨m', l, δ5, M5, F5, q5, x23.trans x5, e5, s5⟩⟩
  | false => exact k.nx _ _ _ F3 H3 h3 x23 (e2.ext x3) s3⟩
/-! ### list comprehensions -/
def wipeD (δ : DE) : List Nat → DE
  | [] => δ
  | v :: vs => (wipeD δ vs).set v none
theorem EnvOk.none {F : Hp} {δ : DE} {σ : L2.St} (h : EnvOk K F δ σ) (v : Nat) : EnvOk K F (δ.set v none) (σ.set v none) := by
  refine ⟨by rw [List.length_set, List.length_set, h.len], fun j d' e => ?_⟩
  by_cases z : v = j
  · subst z
    by_cases l : v < δ.length
    · rw [List.getElem?_set_self l] at e; cases e
    · rw [List.getElem?_eq_none (by rw [List.length_set]; omega)] at e; cases e
  · rw [List.getElem?_set_ne z] at e ⊢
    exact h.at_ j d' e
theorem EnvOk.wipe {F : Hp} {δ : DE} {σ : L2.St} (h : EnvOk K F δ σ) : ∀ vs : List Nat, EnvOk K F (wipeD δ vs) (L2.wipe σ vs)
  | [] => h
  | v :: vs => (EnvOk.wipe h vs).none v
def wLc (wi : WI) (g : WG) (sl : List Nat) (tt : WT) (we : WE) (vs : List Nat) (δ : DE) (M : Mem) (Q : WK) : Prop := wi δ M fun xs M1 => sl.all (fun i => vs.contains i) = true ∧ xs.length ≤ sizeLine ∧ ∃ I : Nat → List D → Mem → Prop, I 0 [] M1 ∧
  (∀ i x acc M, xs[i]? = some x → acc.length ≤ i → I i acc M → g x (wipeD δ vs) M fun δ2 M2 => tt δ2 M2 fun b M3 => if b = true then we δ2 M3 fun y M4 => I (i + 1) (acc ++ [y]) M4 else I (i + 1) acc M3) ∧
  ∀ acc M, acc.length ≤ xs.length → I xs.length acc M → Q (.lst acc) M
instance lf_yes : LfT K E Ξ tYes (fun _ M Q => Q true M) := ⟨fun {δ M Q} h {σ F G H} e s o {R} k => k true M F H h Ext.refl s⟩
instance lf_lc {wi : TI} {Wi : WI} {g : TG} {wg : WG} {sl vs : List Nat} [a : LfI K E Ξ wi Wi] [b : LfG K E0 (fun _ _ => False) g wg sl] [cl : LfT K E0 (fun _ _ => False) t wt] [ce : LfE K E0 (fun _ _ => False) te we] : LfE K E Ξ (tLc wi g t te vs) (wLc Wi wg sl wt we vs) := ⟨fun {δ M Q} h {σ F G H} e s o {R} k =>
  a.run h e s o fun xs M1 J F1 H1 ⟨hsl, hz, I, i0, turn, done⟩ x1 s1 it => by
    intro L nL
    have gL := s1.freshG nL
    have hsl' : ∀ i, i ∈ sl → i ∈ vs := fun i hi => by
      have := List.all_eq_true.mp hsl i hi
      simpa using this
    refine ⟨fun i m H => m = xs.length - i ∧ i ≤ xs.length ∧ ∃ acc vacc M F2, I i acc M ∧ acc.length ≤ i ∧ Ext F1 F2 ∧ DenL K F2 acc vacc ∧ Sat K F2 M (upd G L (.lst vacc)) H, ⟨xs.length, by omega, Nat.zero_le _, [], [], M1, F1, i0, Nat.le_refl _, Ext.refl, rfl, s1.put nL⟩, ?_⟩
    rintro i m H2 ⟨rfl, hi, acc, vacc, M2, F2, hI, hac, x2, da, s2⟩
    have e2 := e.ext (x1.trans x2)
    by_cases l : i < xs.length
    · refine .inr ⟨it.go i F2 M2 _ H2 l x2 s2, fun H3 => ∃ acc vacc M F2, I (i + 1) acc M ∧ acc.length ≤ i + 1 ∧ Ext F1 F2 ∧ DenL K F2 acc vacc ∧ Sat K F2 M (upd G L (.lst vacc)) H3, fun H3 h3 => ⟨xs.length - (i + 1), by omega, rfl, l, h3⟩, fun x H3 y => ?_⟩
      obtain ⟨d, F3, g1, g2, g3, g4⟩ := it.yld i F2 M2 _ H2 H3 x l x2 s2 y
      have x13 := x2.trans g2
      refine b.run (turn i d acc M2 g1 hac hI) ((e2.ext g2).wipe vs) g3 EOk.none g4 fun δ4 M4 σ4 F4 H4 q4 x4 e4 s4 k4 => ?_
      refine ⟨by rw [k4 vs hsl', wipe_wipe], ?_⟩
      have x14 := x13.trans x4
      refine cl.run q4 e4 s4 EOk.none fun bb M5 F5 H5 q5 x5 s5 => ?_
      have x15 := x14.trans x5
      have da5 := (((da.ext g2).ext x4).ext x5)
      cases bb with
      | true =>
        refine ce.run q5 (e4.ext x5) s5 EOk.none fun z M6 v6 F6 H6 q6 x6 s6 d6 => ?_
        have eL := (s6.fr L _ upd_same).1
        have hvl := da.len
        exact ⟨vacc, eL, by omega, acc ++ [z], vacc ++ [v6], M6, F6, q6, by rw [List.length_append]; show acc.length + 1 ≤ i + 1; omega, x15.trans x6, (da5.ext x6).append (DenL.one d6), s6.reput⟩
      | false => exact ⟨acc, vacc, M5, F5, q5, by omega, x15, da5, s5⟩
    · have ei : i = xs.length := by omega
      subst ei
      obtain ⟨x3, s3⟩ := s2.settle gL
      exact .inl ⟨it.stop F2 M2 _ H2 x2 s2, k _ M2 _ _ H2 (done acc M2 hac hI) ((x1.trans x2).trans x3) s3 ⟨L, vacc, rfl, SqL.of upd_same, da.ext x3⟩⟩⟩
/-! ### defs -/
abbrev DSp := List D → Mem → WK → WX → Prop
/-- a promise over data, as a promise of the layer below -/
def toSp (K : Frag) (n : Nat) (S : DSp) : Sp := fun vs H Q E => vs.length = n ∧ ∃ (ds : List D) (M : Mem) (F G : Hp) (Qd : WK) (Ed : WX), S ds M Qd Ed ∧ Sat K F M G H ∧ DenL K F ds vs ∧ (∀ d M' v F' H', Qd d M' → Ext F F' → Sat K F' M' G H' → Den K F' d v → Q v H') ∧ EOk K F G Ed E
def wCall (n : Nat) (S : DSp) (dd : List D) (Ξ : WX) (wl : WA) (δ : DE) (M : Mem) (Q : WK) : Prop := wl δ M fun xs M1 => (xs ++ dd).length = n ∧ S (xs ++ dd) M1 Q Ξ
theorem call_run {n : Nat} {S : DSp} {xs : List D} {M : Mem} {Q : WK} {F G H : Hp} {vs : List V} {R : VK} (hn : xs.length = n) (h : S xs M Q Ξ) (s : Sat K F M G H) (d : DenL K F xs vs) (o : EOk K F G Ξ E) (k : ∀ d M' v F' H', Q d M' → Ext F F' → Sat K F' M' G H' → Den K F' d v → R v H') : toSp K n S vs H R E :=
  ⟨by rw [← d.len, hn], xs, M, F, G, Q, Ξ, h, s, d, k, o⟩
instance lf_call {n : Nat} {S : DSp} [a : LfA K E Ξ tl wl] : LfE K E Ξ (tCall (toSp K n S) [] E tl) (wCall n S [] Ξ wl) := ⟨fun {δ M Q} h {σ F G H} e s o {R} k =>
  a.run h e s o fun xs M1 vs F1 H1 ⟨h1, h2⟩ x1 s1 d1 => by
    rw [List.append_nil] at h1 h2 ⊢
    exact call_run h1 h2 s1 d1 (o.ext x1) fun d M' v F' H' q x2 s2 d2 => k d M' v F' H' q (x1.trans x2) s2 d2⟩
instance lf_call0 {n : Nat} {S : DSp} [a : LfA K E Ξ tl wl] : LfE K E Ξ (tCall (toSp K n S) [] E0 tl) (wCall n S [] (fun _ _ => False) wl) := ⟨fun {δ M Q} h {σ F G H} e s o {R} k =>
  a.run h e s o fun xs M1 vs F1 H1 ⟨h1, h2⟩ x1 s1 d1 => by
    rw [List.append_nil] at h1 h2 ⊢
    exact call_run h1 h2 s1 d1 EOk.none fun d M' v F' H' q x2 s2 d2 => k d M' v F' H' q (x1.trans x2) s2 d2⟩
def startD (N : List Str) (ds : List D) : DE := ds.map some ++ List.replicate (N.length - ds.length) none
theorem env_start {F : Hp} {N : List Str} {ds : List D} {vs : List V} (d : DenL K F ds vs) : EnvOk K F (startD N ds) (L2.start N vs) := by
  have hl := d.len
  unfold startD L2.start
  refine ⟨by simp only [List.length_append, List.length_map, List.length_replicate]; omega, fun i x e => ?_⟩
  by_cases l : i < ds.length
  · rw [List.getElem?_append_left (by simpa using l), List.getElem?_map] at e
    cases q : ds[i]? with
    | none => rw [q] at e; cases e
    | some y =>
      rw [q] at e
      cases e
      obtain ⟨v, h1, h2⟩ := d.get q
      exact ⟨v, by rw [List.getElem?_append_left (by simpa using (by omega : i < vs.length)), List.getElem?_map, h1]; rfl, h2⟩
  · rw [List.getElem?_append_right (by simpa using l), List.getElem?_replicate] at e
    split at e <;> cases e
/-- less is told, or nothing, of some cells -/
def Wk (M' M : Mem) : Prop := ∀ a ψ, M' a = some ψ → ∃ φ, M a = some φ ∧ ∀ mb, φ mb → ψ mb
theorem Wk.refl {M : Mem} : Wk M M := fun _ ψ e => ⟨ψ, e, fun _ h => h⟩
theorem Wk.trans {M1 M2 M3 : Mem} (a : Wk M1 M2) (b : Wk M2 M3) : Wk M1 M3 := fun p ψ e => let ⟨φ, e1, k1⟩ := a p ψ e; let ⟨χ, e2, k2⟩ := b p φ e1; ⟨χ, e2, fun mb h => k1 mb (k2 mb h)⟩
theorem Wk.set {M' M : Mem} {p : Addr} {φ ψ : MB → Prop} (h : Wk M' M) (k : ∀ mb, φ mb → ψ mb) : Wk (mset M' p ψ) (mset M p φ) := fun a χ e => by
  by_cases z : a = p
  · subst z; rw [mset_same] at e ⊢; cases e; exact ⟨φ, rfl, k⟩
  · rw [mset_ne z] at e ⊢; exact h a χ e
/-- a cell of one's own is forgotten -/
theorem Wk.drop {M' M : Mem} {p : Addr} {φ : MB → Prop} (h : Wk M' M) (hp : M' p = none) : Wk M' (mset M p φ) := fun a χ e => by
  have z : a ≠ p := fun z => by subst z; rw [hp] at e; cases e
  rw [mset_ne z]
  exact h a χ e
def weakK (Q : WK) : WK := fun d M => ∃ M', Wk M' M ∧ Q d M'
def weakX (Ξ : WX) : WX := fun x M => ∃ M', Wk M' M ∧ Ξ x M'
theorem weakK_of {Q : WK} {d : D} {M : Mem} (h : Q d M) : weakK Q d M := ⟨M, Wk.refl, h⟩
theorem weakX_of {Ξ : WX} {x : Exn} {M : Mem} (h : Ξ x M) : weakX Ξ x M := ⟨M, Wk.refl, h⟩
/-- the body's reading, from the promise over data -/
theorem run_def {P : Program} {N : List Str} {ds : List D} {vs : List V} {M : Mem} {F G H : Hp} {Qd : WK} {Ed : WX} {Q : VK} (l : LfS K E (weakX Ed) ts ws) (h : ws { nx := fun _ M => weakK Qd .non M, rt := weakK Qd } (startD N ds) M)
    (s : Sat K F M G H) (d : DenL K F ds vs) (k : ∀ d M' v F' H', Qd d M' → Ext F F' → Sat K F' M' G H' → Den K F' d v → Q v H') (o : EOk K F G Ed E) : ts { nx := fun _ H' => Q .non H', rt := Q } (L2.start N vs) H :=
  l.run h (env_start d) s (fun x M F' H dx xs ⟨M', w, q⟩ e s => o x M' F' H dx xs q e (s.less w)) ⟨fun δ M σ F' H' ⟨M', w, q⟩ x e s => k .non M' .non F' H' q x (s.less w) rfl, fun d M v F' H' ⟨M', w, q⟩ x s dd => k d M' v F' H' q x (s.less w) dd, fun _ _ _ _ _ q => q.elim, fun _ _ _ _ _ q => q.elim⟩
end
section
variable {P : Program} {w : World} {K : Frag} {mg : Str → Option Value} {base : Heap}
/-- THE RULE for a def of the text -/
theorem def_ok {x qual : Str} {params : Arguments} {body : List Stmt} {scope : Scope} {dvs : List V} {kws : List (Str × V)} {f : Addr} {fd : FuncData} {N ps : List Str} {k n : Nat} {S : DSp} (F : FunD K x qual params body scope dvs kws f fd) (Sc : FnScope N ps scope) (hn : n = ps.length) {W : WX → WS}
    (hbody : ∀ (cdv : Value) (A : Around) (outer : List Env) (s : Shared) (H : Hp) (E : XK), Room k (A.deeper (envOfC qual scope s.heap.objs.size f cdv)) → ∃ t, PSs (cxOf (L2.CX P w) P w K mg base N qual scope f cdv A outer s H E) body t ∧ ∀ Ξ, LfS K E Ξ t (W Ξ))
    (pure : ∀ ds M Qd Ed, ds.length = n → S ds M Qd Ed → W (weakX Ed) { nx := fun _ M => weakK Qd .non M, rt := weakK Qd } (startD N ds) M) : FnOk P w K mg base (L2.CX P w) (k + 1) f fd ps (toSp K n S) :=
  F.ok Sc (fun vs H Q E h => by rw [← hn]; exact h.1) fun cdv A outer s H vs Q E hr h => by
    obtain ⟨t, ht, l⟩ := hbody cdv A outer s H E hr
    obtain ⟨hv, ds, M, F0, G, Qd, Ed, hS, sat, d, kk, o⟩ := h
    exact ⟨t, ht, run_def (P := P) (l (weakX Ed)) (pure ds M Qd Ed (by rw [d.len, hv]) hS) sat d kk o⟩
end
end DL
set_option Elab.async false
set_option linter.all false
set_option maxRecDepth 100000
namespace DL
open PySem L2 PyProof.Rows
/-! ### calls of built-ins, by values -/
theorem CallR.or {X : Cx} {f : Value} {r r' : List V → Hp → VK → Prop} (h : CallR X f r) (h' : CallR X f r') : CallR X f (fun xs H Q => r xs H Q ∨ r' xs H Q) := by
  intro pins s σ H xs us Q I rs q
  rcases q with q | q
  · exact h pins s σ H xs us Q I rs q
  · exact h' pins s σ H xs us Q I rs q
abbrev WC := List D → Mem → WK → Prop
class LfC (K : Frag) (E : XK) (Ξ : WX) (r : List V → Hp → VK → Prop) (w : outParam WC) : Prop where
  run : ∀ {xs : List D} {M : Mem} {Q : WK}, w xs M Q → ∀ {F G H : Hp} {vs : List V}, Sat K F M G H → EOk K F G Ξ E → DenL K F xs vs → ∀ {R : VK}, (∀ d M' v F' H', Q d M' → Ext F F' → Sat K F' M' G H' → Den K F' d v → R v H') → r vs H R
def wCB (w : WC) (wl : WA) (δ : DE) (M : Mem) (Q : WK) : Prop := wl δ M fun xs M1 => w xs M1 Q
section
variable {K : Frag} {E : XK} {Ξ : WX} {F G H : Hp} {M : Mem} {te : TE} {we : WE} {tl : TA} {wl : WA}
instance lf_cb' {r : List V → Hp → VK → Prop} {w : WC} [a : LfA K E Ξ tl wl] [b : LfC K E Ξ r w] : LfE K E Ξ (tCB r tl) (wCB w wl) := ⟨fun {δ M Q} h {σ F G H} e s o {R} k =>
  a.run h e s o fun xs M1 vs F1 H1 h1 x1 s1 d1 => b.run h1 s1 (o.ext x1) d1 fun d M3 z F3 H3 h3 x3 s3 d3 => k d M3 z F3 H3 h3 (x1.trans x3) s3 d3⟩
theorem den1 {x : D} {vs : List V} (d : DenL K F [x] vs) : ∃ v, vs = [v] ∧ Den K F x v := by
  obtain ⟨v, r, rfl, d, rfl⟩ := d
  exact ⟨v, rfl, d⟩
theorem den2 {x y : D} {vs : List V} (d : DenL K F [x, y] vs) : ∃ v u, vs = [v, u] ∧ Den K F x v ∧ Den K F y u := by
  obtain ⟨v, r, rfl, e1, d2⟩ := d
  obtain ⟨u, rfl, e2⟩ := den1 d2
  exact ⟨v, u, rfl, e1, e2⟩
/-! len -/
def rLenQ (K : Frag) : List V → Hp → VK → Prop := fun xs H Q => ∃ x n, xs = [x] ∧ LenV K x H n ∧ Q (.int (n : Int)) H
def rLenD : List V → Hp → VK → Prop := fun xs H Q => ∃ a kvs, xs = [V.ref a] ∧ H a = some (.dK kvs) ∧ Q (.int (kvs.length : Int)) H
def rLenA (K : Frag) : List V → Hp → VK → Prop := fun xs H Q => rLenQ K xs H Q ∨ rLenD xs H Q
theorem call_lenA {X : Cx} : CallR X (.builtin "len") (rLenA X.K) := CallR.or call_len call_lenD
def lenM (mb : MB) : Option Nat := match mb with
  | .lst l => some l.length
  | .dic kvs => some kvs.length
  | .ins _ _ => none
def wLen (xs : List D) (M : Mem) (Q : WK) : Prop := match xs with
  | [.str z] => z.length ≤ sizeLine ∧ Q (.int (z.length : Int)) M
  | [.lst l] => Q (.int (l.length : Int)) M
  | [.tup l] => Q (.int (l.length : Int)) M
  | [.dic ks l] => Q (.int (ks.length : Int)) M
  | [.ref p] => ∃ φ, M p = some φ ∧ ∀ mb, φ mb → ∃ n : Nat, lenM mb = some n ∧ Q (.int (n : Int)) (mset M p (· = mb))
  | _ => False
instance lf_len : LfC K E Ξ (rLenA K) wLen := ⟨fun {xs M Q} h {F G H vs} s o d {R} k => by
  match xs with
  | [] => exact h.elim
  | [x] =>
    obtain ⟨v, rfl, dv⟩ := den1 d
    cases x with
    | str z => cases dv; exact .inl ⟨.str z, _, rfl, ⟨h.1, rfl⟩, k _ M _ F H h.2 Ext.refl s rfl⟩
    | lst l => obtain ⟨p, ys, rfl, q, dl⟩ := dv; exact .inl ⟨.ref p, _, rfl, Or.inl ⟨ys, sql_ext s.sub q, dl.len⟩, k _ M _ F H h Ext.refl s rfl⟩
    | tup l => obtain ⟨p, ys, rfl, q, dl⟩ := dv; exact .inl ⟨.ref p, _, rfl, Or.inr ⟨ys, sqt_ext s.sub q, dl.len⟩, k _ M _ F H h Ext.refl s rfl⟩
    | dic ks l =>
      obtain ⟨p, ys, rfl, q, hl, dl⟩ := dv
      refine .inr ⟨p, _, rfl, s.sub _ _ q, ?_⟩
      rw [List.length_zip, hl, Nat.min_self, ← hl]
      exact k _ M _ F H h Ext.refl s rfl
    | ref p =>
      obtain ⟨φ, hp, h⟩ := h
      obtain ⟨mb, ho, g1, g2, g3, s'⟩ := s.tell hp
      obtain ⟨n, e, h⟩ := h mb g1
      cases dv
      cases mb with
      | lst l => cases e; obtain ⟨ys, rfl, dl⟩ := g3; exact .inl ⟨.ref p, _, rfl, Or.inl ⟨ys, SqL.of g2, dl.len⟩, k _ _ _ F H h Ext.refl s' rfl⟩
      | dic kvs => cases e; obtain ⟨ys, rfl, dl⟩ := g3; exact .inr ⟨p, _, rfl, g2, by rw [← dl.len]; exact k _ _ _ F H h Ext.refl s' rfl⟩
      | ins _ _ => cases e
    | _ => exact h.elim
  | x :: y :: r => exact False.elim (by cases x <;> exact h)⟩
/-! all, any of a list of bools -/
def wAll (xs : List D) (M : Mem) (Q : WK) : Prop := ∃ (x : D) (bs : List Bool), xs = [x] ∧ LstAt M x (bs.map D.bl) ∧ Q (.bl (bs.all id)) M
def wAny (xs : List D) (M : Mem) (Q : WK) : Prop := ∃ (x : D) (bs : List Bool), xs = [x] ∧ LstAt M x (bs.map D.bl) ∧ Q (.bl (bs.any id)) M
instance lf_all : LfC K E Ξ (rAll K) wAll := ⟨fun {xs M Q} ⟨x, bs, e, h1, h2⟩ {F G H vs} s o d {R} k => by
  subst e
  obtain ⟨v, rfl, dv⟩ := den1 d
  obtain ⟨p, ys, rfl, q, dl⟩ := lst_at s dv h1
  have e := DenL.toMap (f := D.bl) (g := V.bl) (fun _ _ h => h) bs dl
  subst e
  exact ⟨p, bs, rfl, q, k _ M _ F H h2 Ext.refl s rfl⟩⟩
instance lf_any : LfC K E Ξ (rAny K) wAny := ⟨fun {xs M Q} ⟨x, bs, e, h1, h2⟩ {F G H vs} s o d {R} k => by
  subst e
  obtain ⟨v, rfl, dv⟩ := den1 d
  obtain ⟨p, ys, rfl, q, dl⟩ := lst_at s dv h1
  have e := DenL.toMap (f := D.bl) (g := V.bl) (fun _ _ h => h) bs dl
  subst e
  exact ⟨p, bs, rfl, q, k _ M _ F H h2 Ext.refl s rfl⟩⟩
/-! min, max of two ints; str, int -/
def rMin2 : List V → Hp → VK → Prop := fun xs H Q => ∃ i j, xs = [.int i, .int j] ∧ Q (.int (if j < i then j else i)) H
def rMax2 : List V → Hp → VK → Prop := fun xs H Q => ∃ i j, xs = [.int i, .int j] ∧ Q (.int (if j > i then j else i)) H
theorem call_min2' {X : Cx} (hc : X.calm = true) : CallR X (.builtin "min") rMin2 := call_min2 hc
theorem call_max2' {X : Cx} (hc : X.calm = true) : CallR X (.builtin "max") rMax2 := call_max2 hc
def wMin2 (xs : List D) (M : Mem) (Q : WK) : Prop := ∃ i j, xs = [.int i, .int j] ∧ Q (.int (if j < i then j else i)) M
def wMax2 (xs : List D) (M : Mem) (Q : WK) : Prop := ∃ i j, xs = [.int i, .int j] ∧ Q (.int (if j > i then j else i)) M
instance lf_min2 : LfC K E Ξ rMin2 wMin2 := ⟨fun {xs M Q} ⟨i, j, e, h⟩ {F G H vs} s o d {R} k => by
  subst e
  obtain ⟨v, u, rfl, d1, d2⟩ := den2 d
  cases d1; cases d2
  exact ⟨i, j, rfl, k _ M _ F H h Ext.refl s rfl⟩⟩
instance lf_max2 : LfC K E Ξ rMax2 wMax2 := ⟨fun {xs M Q} ⟨i, j, e, h⟩ {F G H vs} s o d {R} k => by
  subst e
  obtain ⟨v, u, rfl, d1, d2⟩ := den2 d
  cases d1; cases d2
  exact ⟨i, j, rfl, k _ M _ F H h Ext.refl s rfl⟩⟩
def rStrI : List V → Hp → VK → Prop := fun xs H Q => ∃ i : Int, xs = [.int i] ∧ i.natAbs.log2 < 1920 ∧ Q (.str (toString i)) H
def rStrS : List V → Hp → VK → Prop := fun xs H Q => ∃ a, xs = [.str a] ∧ Q (.str a) H
def rStr : List V → Hp → VK → Prop := fun xs H Q => rStrI xs H Q ∨ rStrS xs H Q
theorem call_strA {X : Cx} : CallR X (.type "str") rStr := CallR.or call_str_int SkE.call_str_str
def wStr (xs : List D) (M : Mem) (Q : WK) : Prop := match xs with
  | [.int i] => i.natAbs.log2 < 1920 ∧ Q (.str (toString i)) M
  | [.str a] => Q (.str a) M
  | _ => False
instance lf_str : LfC K E Ξ rStr wStr := ⟨fun {xs M Q} h {F G H vs} s o d {R} k => by
  match xs with
  | [] => exact h.elim
  | [x] =>
    obtain ⟨v, rfl, dv⟩ := den1 d
    cases x with
    | int i => cases dv; exact .inl ⟨i, rfl, h.1, k _ M _ F H h.2 Ext.refl s rfl⟩
    | str a => cases dv; exact .inr ⟨a, rfl, k _ M _ F H h Ext.refl s rfl⟩
    | _ => exact h.elim
  | x :: y :: r => exact False.elim (by cases x <;> exact h)⟩
def rIntI : List V → Hp → VK → Prop := fun xs H Q => (∃ i, xs = [.int i] ∧ Q (.int i) H) ∨ ∃ k, xs = [.bl k] ∧ Q (.int (if k then 1 else 0)) H
def rIntS : List V → Hp → VK → Prop := fun xs H Q => ∃ a n, xs = [.str a] ∧ PySem.intText? a = some n ∧ a.length ≤ 640 ∧ Q (.int n) H
def rInt : List V → Hp → VK → Prop := fun xs H Q => rIntI xs H Q ∨ rIntS xs H Q
theorem call_intA {X : Cx} : CallR X (.type "int") rInt := CallR.or call_int1 call_int_str
def wInt (xs : List D) (M : Mem) (Q : WK) : Prop := match xs with
  | [.int i] => Q (.int i) M
  | [.bl b] => Q (.int (if b then 1 else 0)) M
  | [.str a] => ∃ n, PySem.intText? a = some n ∧ a.length ≤ 640 ∧ Q (.int n) M
  | _ => False
instance lf_int : LfC K E Ξ rInt wInt := ⟨fun {xs M Q} h {F G H vs} s o d {R} k => by
  match xs with
  | [] => exact h.elim
  | [x] =>
    obtain ⟨v, rfl, dv⟩ := den1 d
    cases x with
    | int i => cases dv; exact .inl (.inl ⟨i, rfl, k _ M _ F H h Ext.refl s rfl⟩)
    | bl b => cases dv; exact .inl (.inr ⟨b, rfl, k _ M _ F H h Ext.refl s rfl⟩)
    | str a => obtain ⟨n, h1, h2, h⟩ := h; cases dv; exact .inr ⟨a, n, rfl, h1, h2, k _ M _ F H h Ext.refl s rfl⟩
    | _ => exact h.elim
  | x :: y :: r => exact False.elim (by cases x <;> exact h)⟩
/-! list(..), tuple(..) of a list or a tuple -/
def rListO (K : Frag) : List V → Hp → VK → Prop := fun xs H Q => ∃ p ys, xs = [.ref p] ∧ (SqL K H p ys ∨ SqT K H p ys) ∧ ∀ l, H l = none → Q (.ref l) (upd H l (.lst ys))
def rTupO (K : Frag) : List V → Hp → VK → Prop := fun xs H Q => ∃ p ys, xs = [.ref p] ∧ ((SqL K H p ys ∧ ∀ l, H l = none → Q (.ref l) (upd H l (.tup ys))) ∨ (SqT K H p ys ∧ Q (.ref p) H))
theorem call_listO {X : Cx} : CallR X (.type "list") (rListO X.K) := call_list_of
theorem call_tupO {X : Cx} : CallR X (.type "tuple") (rTupO X.K) := call_tuple_of
def wList (xs : List D) (M : Mem) (Q : WK) : Prop := match xs with
  | [.lst l] => Q (.lst l) M
  | [.tup l] => Q (.lst l) M
  | [.ref p] => ∃ l, M p = some (· = .lst l) ∧ Q (.lst l) M
  | _ => False
def wTuple (xs : List D) (M : Mem) (Q : WK) : Prop := match xs with
  | [.lst l] => Q (.tup l) M
  | [.tup l] => Q (.tup l) M
  | [.ref p] => ∃ l, M p = some (· = .lst l) ∧ Q (.tup l) M
  | _ => False
instance lf_list : LfC K E Ξ (rListO K) wList := ⟨fun {xs M Q} h {F G H vs} s o d {R} k => by
  have go : ∀ (p : Addr) (l : List D) (ys : List V), (SqL K H p ys ∨ SqT K H p ys) → DenL K F l ys → Q (.lst l) M → rListO K [.ref p] H R := fun p l ys q dl hq =>
    ⟨p, ys, rfl, q, fun r nr => k _ M _ _ _ hq (Ext.new (s.freshF nr)) (s.new nr) ⟨r, ys, rfl, SqL.of upd_same, dl.ext (Ext.new (s.freshF nr))⟩⟩
  match xs with
  | [] => exact h.elim
  | [x] =>
    obtain ⟨v, rfl, dv⟩ := den1 d
    cases x with
    | lst l => obtain ⟨p, ys, rfl, q, dl⟩ := dv; exact go p l ys (.inl (sql_ext s.sub q)) dl h
    | tup l => obtain ⟨p, ys, rfl, q, dl⟩ := dv; exact go p l ys (.inr (sqt_ext s.sub q)) dl h
    | ref p => obtain ⟨l, h1, h⟩ := h; obtain ⟨p', ys, e, q, dl⟩ := lst_at s dv (.inr ⟨p, rfl, h1⟩); subst e; exact go p' l ys (.inl q) dl h
    | _ => exact h.elim
  | x :: y :: r => exact False.elim (by cases x <;> exact h)⟩
instance lf_tuple : LfC K E Ξ (rTupO K) wTuple := ⟨fun {xs M Q} h {F G H vs} s o d {R} k => by
  have go : ∀ (p : Addr) (l : List D) (ys : List V), SqL K H p ys → DenL K F l ys → Q (.tup l) M → rTupO K [.ref p] H R := fun p l ys q dl hq =>
    ⟨p, ys, rfl, .inl ⟨q, fun r nr => k _ M _ _ _ hq (Ext.new (s.freshF nr)) (s.new nr) ⟨r, ys, rfl, SqT.of upd_same, dl.ext (Ext.new (s.freshF nr))⟩⟩⟩
  match xs with
  | [] => exact h.elim
  | [x] =>
    obtain ⟨v, rfl, dv⟩ := den1 d
    cases x with
    | lst l => obtain ⟨p, ys, rfl, q, dl⟩ := dv; exact go p l ys (sql_ext s.sub q) dl h
    | tup l => obtain ⟨p, ys, rfl, q, dl⟩ := dv; exact ⟨p, ys, rfl, .inr ⟨sqt_ext s.sub q, k _ M _ F H h Ext.refl s ⟨p, ys, rfl, q, dl⟩⟩⟩
    | ref p => obtain ⟨l, h1, h⟩ := h; obtain ⟨p', ys, e, q, dl⟩ := lst_at s dv (.inr ⟨p, rfl, h1⟩); subst e; exact go p' l ys q dl h
    | _ => exact h.elim
  | x :: y :: r => exact False.elim (by cases x <;> exact h)⟩
/-! isinstance -/
def tyS : D → Option String
  | .non => some "NoneType" | .bl _ => some "bool" | .int _ => some "int" | .str _ => some "str" | .tup _ => some "tuple" | .lst _ => some "list" | .dic _ _ => some "dict"
  | _ => none
theorem tyx_of (s : Sat K F M G H) {x : D} {v : V} {t : String} (d : Den K F x v) (h : tyS x = some t) : TyX K H v (.type t) := by
  cases x with
  | non => cases h; cases d; exact .base .non
  | bl b => cases h; cases d; exact .base (.bl b)
  | int i => cases h; cases d; exact .base (.int i)
  | str z => cases h; cases d; exact .base (.str z)
  | tup l =>
    cases h
    obtain ⟨p, xs, rfl, q, _⟩ := d
    rcases q with (q | ⟨o, q⟩) | ⟨o, its, n, q1, q2, _⟩
    · exact .base (.tup (s.sub _ _ q))
    · exact .fTuple (s.sub _ _ q)
    · exact .kTuple q1 q2
  | lst l =>
    cases h
    obtain ⟨p, xs, rfl, q, _⟩ := d
    rcases q with (q | ⟨o, q⟩) | ⟨o, its, n, q1, q2, _⟩
    · exact .base (.lst (s.sub _ _ q))
    · exact .base (.frz (s.sub _ _ q))
    · exact .kList q1 q2
  | dic ks l =>
    cases h
    obtain ⟨p, xs, rfl, q, _⟩ := d
    exact .base (.dK (s.sub _ _ q))
  | _ => cases h
/-- what the written part says of a class whose instances are asked about -/
structure InsT (K : Frag) (C : Addr) : Prop where
  cl : Cls K C
  ha : PySem.W.findIn K (.ref C) "__class__" = some (some (.builtin "object.__class__"))
  hn : PySem.W.specialIn K (.builtin "object.__class__") "__get__" = some (some (.builtin "getset_descriptor.__get__"))
  ht : PySem.W.takesIn K (.builtin "object.__class__") = some true
  hm : PySem.W.mroIn K C (.type "object") = some true
def tyW (K : Frag) (x : D) (t : Value) : Prop := match x with
  | .obj C _ _ => InsT K C ∧ t = .ref C
  | x => ∃ n, tyS x = some n ∧ t = .type n
def clsW : D → Option Value
  | .ty n => some (.type n)
  | .ref C => some (.ref C)
  | _ => none
theorem tyw_of (s : Sat K F M G H) {x : D} {v : V} {t : Value} (d : Den K F x v) (h : tyW K x t) : TyX K H v t := by
  cases x with
  | obj C ks l =>
    obtain ⟨c, rfl⟩ := h
    obtain ⟨a, dx, xs, rfl, q, _⟩ := d
    exact .base (.ins (s.sub _ _ q) c.cl c.ha c.hn c.ht c.hm)
  | _ =>
    obtain ⟨n, h1, rfl⟩ := h
    exact tyx_of s d h1
theorem clsv_of {c : D} {v : V} {u : Value} (d : Den K F c v) (h : clsW c = some u) : ClsV v u := by
  cases c <;> first | (cases h; done) | (cases h; cases d; first | exact .ty _ | exact .own _)
def wIsi (K : Frag) (xs : List D) (M : Mem) (Q : WK) : Prop := ∃ x c t u b, xs = [x, c] ∧ tyW K x t ∧ clsW c = some u ∧ PySem.W.kitOne K t u = some b ∧ Q (.bl b) M
instance lf_isi : LfC K E Ξ (rIsi K) (wIsi K) := ⟨fun {xs M Q} ⟨x, c, t, u, b, e, h1, h2, h3, h⟩ {F G H vs} s o d {R} k => by
  subst e
  obtain ⟨v, z, rfl, d1, d2⟩ := den2 d
  exact ⟨v, z, t, u, b, rfl, clsv_of d2 h2, tyw_of s d1 h1, h3, k _ M _ F H h Ext.refl s rfl⟩⟩
/-! repr of data -/
def rRepr (K : Frag) : List V → Hp → VK → Prop := fun xs H Q => ∃ v p, xs = [v] ∧ Dp K H v p ∧ p.showable = true ∧ p.depth ≤ 60 ∧ p.shown.length ≤ sizeLine ∧ (∃ a, v = .ref a) ∧ Q (.str p.shown) H
mutual
theorem dp_nodict {H : Hp} : ∀ {v : V} {p : PyData}, Dp K H v p → p.hasDict = false
  | _, _, .non => rfl
  | _, _, .bl _ => rfl
  | _, _, .int _ => rfl
  | _, _, .str _ => rfl
  | _, _, .lst _ h => dp_nodictL h
  | _, _, .tup _ h => dp_nodictL h
theorem dp_nodictL {H : Hp} : ∀ {vs : List V} {ps : List PyData}, DpAll K H vs ps → PyData.hasDictAll ps = false
  | _, _, .nil => rfl
  | _, _, .cons h t => by
    show (_ || _) = false
    rw [dp_nodict h, dp_nodictL t]
    rfl
end
theorem call_reprA {X : Cx} (hg : X.A.guards = some []) (hu : X.A.units + 64 < cLine) : CallR X (.builtin "repr") (rRepr X.K) := by
  intro pins s σ H xs us Q I r h
  obtain ⟨v, p, rfl, d, h1, h2, h3, ⟨a, rfl⟩, q⟩ := h
  obtain ⟨u, rfl, rv⟩ := vals1 r
  cases rv
  obtain ⟨as, rd⟩ := Dp.reads I p _ _ d rfl
  exact repr_of_reads' rd h1 (PyData.noDict_hsm (dp_nodict d)) hg (by omega) (fun _ _ e => e) (fun h' u tk hk => ⟨.str p.shown, H, I.kept hk, ⟨u, rfl⟩, q⟩) h3
def isSeq : D → Bool
  | .tup _ => true
  | .lst _ => true
  | _ => false
def wRepr (xs : List D) (M : Mem) (Q : WK) : Prop := ∃ x p, xs = [x] ∧ isSeq x = true ∧ toPy x = some p ∧ p.showable = true ∧ p.depth ≤ 60 ∧ p.shown.length ≤ sizeLine ∧ Q (.str p.shown) M
instance lf_repr : LfC K E Ξ (rRepr K) wRepr := ⟨fun {xs M Q} ⟨x, p, e, h0, h1, h2, h3, h4, h⟩ {F G H vs} s o d {R} k => by
  subst e
  obtain ⟨v, rfl, dv⟩ := den1 d
  have dp := dp_of s.sub dv h1
  refine ⟨v, p, rfl, dp, h2, h3, h4, ?_, k _ M _ F H h Ext.refl s rfl⟩
  cases x <;> first | (cases h0; done) | (obtain ⟨a, _, e, _⟩ := dv; exact ⟨a, e⟩)⟩
/-! ### methods of built-in types -/
class LfM (K : Frag) (E : XK) (Ξ : WX) (r : V → List V → Hp → VK → Prop) (w : outParam (D → WC)) : Prop where
  run : ∀ {x : D} {xs : List D} {M : Mem} {Q : WK}, w x xs M Q → ∀ {F G H : Hp} {v : V} {vs : List V}, Sat K F M G H → EOk K F G Ξ E → Den K F x v → DenL K F xs vs → ∀ {R : VK}, (∀ d M' v F' H', Q d M' → Ext F F' → Sat K F' M' G H' → Den K F' d v → R v H') → r v vs H R
def isStr : D → Bool
  | .str _ => true
  | _ => false
/-- o.m(..), o a text -/
def tBMs (K : Frag) (r : V → List V → Hp → VK → Prop) (to : TE) (t : TA) : TE := tBM K "str" r to t
def wBMs (w : D → WC) (wo : WE) (wl : WA) (δ : DE) (M : Mem) (Q : WK) : Prop := wo δ M fun x M1 => isStr x = true ∧ wl δ M1 fun xs M2 => w x xs M2 Q
instance lf_bms {r : V → List V → Hp → VK → Prop} {w : D → WC} [a : LfE K E Ξ te we] [b : LfA K E Ξ tl wl] [m : LfM K E Ξ r w] : LfE K E Ξ (tBM K "str" r te tl) (wBMs w we wl) := ⟨fun {δ M Q} h {σ F G H} e s o {R} k =>
  a.run h e s o fun x M1 v F1 H1 ⟨hx, h1⟩ x1 s1 d1 => by
    refine ⟨?_, b.run h1 (e.ext x1) s1 (o.ext x1) fun xs M2 vs F2 H2 h2 x2 s2 d2 => m.run h2 s2 ((o.ext x1).ext x2) (d1.ext x2) d2 fun d M3 z F3 H3 h3 x3 s3 d3 => k d M3 z F3 H3 h3 ((x1.trans x2).trans x3) s3 d3⟩
    cases x <;> first | (cases hx; done) | (cases d1; rfl)⟩
/-! "..".join(..) -/
def rJoin (K : Frag) : V → List V → Hp → VK → Prop := fun x xs H Q => ∃ a p, ∃ ys : List Str, x = .str a ∧ xs = [.ref p] ∧ (SqL K H p (ys.map V.str) ∨ SqT K H p (ys.map V.str)) ∧ (ys.map (·.length)).sum + ys.length * a.length ≤ 16777216 ∧ Q (.str (Txt.join a ys)) H
theorem mt_join' {X : Cx} : MtR X "str.join" (rJoin X.K) := mt_join
def wJoin (x : D) (xs : List D) (M : Mem) (Q : WK) : Prop := ∃ (a : Str) (y : D) (ys : List Str), x = .str a ∧ xs = [y] ∧ (LstAt M y (ys.map D.str) ∨ y = .tup (ys.map D.str)) ∧ (ys.map (·.length)).sum + ys.length * a.length ≤ 16777216 ∧ Q (.str (Txt.join a ys)) M
instance lf_join : LfM K E Ξ (rJoin K) wJoin := ⟨fun {x xs M Q} ⟨a, y, ys, e1, e2, h1, h2, h3⟩ {F G H v vs} s o dx d {R} k => by
  subst e1 e2
  obtain ⟨u, rfl, du⟩ := den1 d
  cases dx
  have fin := k _ M _ F H h3 Ext.refl s rfl
  rcases h1 with h1 | rfl
  · obtain ⟨p, zs, rfl, q, dl⟩ := lst_at s du h1
    have e := DenL.toMap (f := D.str) (g := V.str) (fun _ _ h => h) ys dl
    subst e
    exact ⟨a, p, ys, rfl, rfl, .inl q, h2, fin⟩
  · obtain ⟨p, zs, rfl, q, dl⟩ := du
    have e := DenL.toMap (f := D.str) (g := V.str) (fun _ _ h => h) ys dl
    subst e
    exact ⟨a, p, ys, rfl, rfl, .inr (sqt_ext s.sub q), h2, fin⟩⟩
/-! ### slices of step one -/
abbrev WO := DE → Mem → (Option Int → Mem → Prop) → Prop
class LfO (K : Frag) (E : XK) (Ξ : WX) (t : TO) (w : outParam WO) : Prop where
  run : ∀ {δ : DE} {M : Mem} {Q : Option Int → Mem → Prop}, w δ M Q → ∀ {σ : L2.St} {F G H : Hp}, EnvOk K F δ σ → Sat K F M G H → EOk K F G Ξ E → ∀ {R : Option Int → Hp → Prop}, (∀ b M' F' H', Q b M' → Ext F F' → Sat K F' M' G H' → R b H') → t σ H R
def wNoPart (_ : DE) (M : Mem) (Q : Option Int → Mem → Prop) : Prop := Q none M
def wPart (we : WE) (δ : DE) (M : Mem) (Q : Option Int → Mem → Prop) : Prop := we δ M fun x M1 => ∃ i, x = .int i ∧ Q (some i) M1
instance lf_noPart : LfO K E Ξ tNoPart wNoPart := ⟨fun {_ _ _} h {σ F G H} e s o {R} k => k none _ F H h Ext.refl s⟩
instance lf_part [a : LfE K E Ξ te we] : LfO K E Ξ (tPart te) (wPart we) := ⟨fun {δ M Q} h {σ F G H} e s o {R} k =>
  a.run h e s o fun x M1 v F1 H1 ⟨i, e1, h1⟩ x1 s1 d1 => by subst e1; cases d1; exact ⟨i, rfl, k (some i) M1 F1 H1 h1 x1 s1⟩⟩
theorem SlR.or {X : Cx} {r r' : V → Option Int → Option Int → Hp → VK → Prop} (h : SlR X r) (h' : SlR X r') : SlR X (fun x lo hi H Q => r x lo hi H Q ∨ r' x lo hi H Q) := by
  intro pins s σ H x v vl vu lo hi sl Q I rx hs pl pu q
  rcases q with q | q
  · exact h pins s σ H x v vl vu lo hi sl Q I rx hs pl pu q
  · exact h' pins s σ H x v vl vu lo hi sl Q I rx hs pl pu q
def rSlX (K : Frag) : V → Option Int → Option Int → Hp → VK → Prop := fun x lo hi H Q => (rSlL K x lo hi H Q ∨ rSlA K x lo hi H Q) ∨ rSlS x lo hi H Q
theorem sl_all {X : Cx} : SlR X (rSlX X.K) := SlR.or (SlR.or sl_list sl_tupA) sl_str
def cutD (xs : List D) (lo hi : Option Int) : List D := (xs.drop (HT.sIx xs.length 0 lo)).take (HT.sIx xs.length xs.length hi - HT.sIx xs.length 0 lo)
theorem den_cut {l : List D} {xs : List V} (d : DenL K F l xs) (lo hi : Option Int) : DenL K F (cutD l lo hi) (cutV xs lo hi) := by
  unfold cutD cutV
  rw [d.len]
  exact (d.drop _).take _
def wSlX (x : D) (lo hi : Option Int) (M : Mem) (Q : WK) : Prop := match x with
  | .lst l => Q (.lst (cutD l lo hi)) M
  | .tup l => Q (.tup (cutD l lo hi)) M
  | .str z => z.length ≤ sizeLine ∧ Q (.str (cutS z lo hi)) M
  | .ref p => ∃ l, M p = some (· = .lst l) ∧ Q (.lst (cutD l lo hi)) M
  | _ => False
def wSl (we : WE) (wl wh : WO) (δ : DE) (M : Mem) (Q : WK) : Prop := we δ M fun x M1 => wl δ M1 fun l M2 => wh δ M2 fun u M3 => wSlX x l u M3 Q
end
end DL
set_option Elab.async false
set_option linter.all false
set_option maxRecDepth 100000
namespace DL
open PySem L2 PyProof.Rows
section
variable {K : Frag} {E : XK} {Ξ : WX} {te : TE} {we : WE} {tl th : TO} {wl wh : WO}
instance lf_slX [a : LfE K E Ξ te we] [b : LfO K E Ξ tl wl] [c : LfO K E Ξ th wh] : LfE K E Ξ (tSl (rSlX K) te tl th) (wSl we wl wh) := ⟨fun {δ M Q} h {σ F G H} e s o {R} k =>
  a.run h e s o fun x M1 v F1 H1 h1 x1 s1 d1 => b.run h1 (e.ext x1) s1 (o.ext x1) fun lo M2 F2 H2 h2 x2 s2 => c.run h2 ((e.ext x1).ext x2) s2 ((o.ext x1).ext x2) fun hi M3 F3 H3 h3 x3 s3 => by
    have x123 := (x1.trans x2).trans x3
    have d3 := (d1.ext x2).ext x3
    have lst : ∀ (p : Addr) (l : List D) (xs : List V), SqL K H3 p xs → DenL K F3 l xs → Q (.lst (cutD l lo hi)) M3 → rSlX K (.ref p) lo hi H3 R := fun p l xs q dl hq =>
      .inl (.inl ⟨p, xs, rfl, q, fun r nr => k _ M3 _ _ _ hq (x123.trans (Ext.new (s3.freshF nr))) (s3.new nr) ⟨r, _, rfl, SqL.of upd_same, (den_cut dl lo hi).ext (Ext.new (s3.freshF nr))⟩⟩)
    cases x with
    | lst l =>
      obtain ⟨p, xs, rfl, q, dl⟩ := d3
      exact lst p l xs (sql_ext s3.sub q) dl h3
    | ref p =>
      obtain ⟨l, hp, h3⟩ := h3
      obtain ⟨p', xs, e, q, dl⟩ := lst_at s3 d3 (.inr ⟨p, rfl, hp⟩)
      subst e
      exact lst p' l xs q dl h3
    | tup l =>
      obtain ⟨p, xs, rfl, q, dl⟩ := d3
      refine .inl (.inr ⟨p, xs, rfl, sqt_ext s3.sub q, fun hw => ?_, fun hw r nr => ?_⟩)
      · have el : cutD l lo hi = l := by
          unfold cutD
          rw [dl.len, hw.1, hw.2, List.drop_zero, Nat.sub_zero, ← dl.len, List.take_length]
        have h3 : Q (.tup (cutD l lo hi)) M3 := h3
        rw [el] at h3
        exact k _ M3 _ F3 H3 h3 x123 s3 ⟨p, xs, rfl, q, dl⟩
      · exact k _ M3 _ _ _ h3 (x123.trans (Ext.new (s3.freshF nr))) (s3.new nr) ⟨r, _, rfl, SqT.of upd_same, (den_cut dl lo hi).ext (Ext.new (s3.freshF nr))⟩
    | str z => cases d3; exact .inr ⟨z, rfl, h3.1, k _ M3 _ F3 H3 h3.2 x123 s3 rfl⟩
    | _ => exact h3.elim⟩
end
/-! ### defs that may show data: no object is being shown around them -/
structure FnG (P : Program) (w : World) (K : Frag) (mg : Str → Option Value) (base : Heap) (CX : CXT) (k : Nat) (f : Addr) (fd : FuncData) (ps : List Str) (sp : Sp) : Prop where
  size : ∀ {vs : List V} {H : Hp} {Q : VK} {E : XK}, sp vs H Q E → vs.length = ps.length
  go : ∀ {A : Around} {outer : List Env} {s : Shared} {H : Hp} {args : Args} {us : List Value} {vs : List V} {Q : VK} {E : XK}, A.guards = some [] → Room k A → Env0 P w K mg base A outer s H → BindsTo s fd args (ps.zip us) → Vals vs us → sp vs H Q E →
    codeAny (model P w) A (.call (.ref f) args) (CR CX outer P w H s Q E) s
theorem FnG.of {P : Program} {w : World} {K : Frag} {mg : Str → Option Value} {base : Heap} {CX : CXT} {k : Nat} {f : Addr} {fd : FuncData} {ps : List Str} {sp : Sp} (F : FnOk P w K mg base CX k f fd ps sp) : FnG P w K mg base CX k f fd ps sp :=
  ⟨fun h => F.len _ _ _ _ h, fun {A outer s H args us vs Q E} _ hr e b v h => F.run A outer s H args us vs Q E hr e b v h⟩
theorem FnG.up {P : Program} {w : World} {K : Frag} {mg : Str → Option Value} {base : Heap} {CX : CXT} {j k : Nat} {f : Addr} {fd : FuncData} {ps : List Str} {sp : Sp} (F : FnG P w K mg base CX j f fd ps sp) (h : j ≤ k) : FnG P w K mg base CX k f fd ps sp :=
  ⟨F.size, fun hg hr e b v q => F.go hg (hr.mono h) e b v q⟩
section
variable {X : Cx} {CX : CXT} {k : Nat} {f : Addr} {fd : FuncData} {ps : List Str} {sp : Sp} {dvs : List V} {ds : List Value} {E : XK}
theorem g_run {pins : List (Addr × Obj)} {σ : L2.St} {H : Hp} {s : Shared} {Q : VK} {us : List Value} {vs : List V} (F : FnG X.prog X.w X.K X.mg X.base CX k f fd ps sp) (hg : X.A.guards = some []) (hr : Room k X.A) (hb : Binds X.K fd ps ds)
    (hd : Vals dvs ds) (hx : Passes CX X E) (I : L2.Inv X pins σ H s) (r : Vals vs us) (h : sp (vs ++ dvs) H Q E) : wpAny (model X.prog X.w) X.A (call (.ref f) us) (EP X pins σ Q) X.xe s := by
  have rr : Vals (vs ++ dvs) (us ++ ds) := r.append hd
  have hb2 := hb s us I.kIn (rr.length.symm.trans (F.size h))
  refine wpAny_call (codeAny_mono (F.go hg hr I.env0 hb2 rr h) fun z s2 hq => ?_)
  match z, hq with
  | .error e, hq => exact hx pins σ H s e s2 I hq
  | .ok (.ret u), hq => exact I.after hq
  | .ok .next, hq => exact hq.elim
  | .ok .brk, hq => exact hq.elim
  | .ok .cont, hq => exact hq.elim
variable {x : Str} {p pos : Pos} {e : Expr} {es : List Expr} {t : TA}
theorem pe_callG (F : FnG X.prog X.w X.K X.mg X.base CX k f fd ps sp) (hgd : X.A.guards = some []) (hr : Room k X.A) (hg : Gl X x) (hm : X.mg x = some (.ref f)) (hk : PySem.W.keepIn X.K (.ref f) = true) (hb : Binds X.K fd ps ds) (hd : Vals dvs ds)
    (hx : Passes CX X E) (ha : PA X (e :: es) t) (hdb : (x == ("__debug__" : Str)) = false := by decide) (he : starEach (e :: es) X.env = (false, eval e X.env) :: starEach es X.env := by rfl) (hpl : (backTo pos (starEach es X.env)).any (·.1) = false := by rfl) :
    PE X (.Call (.Name x p) (e :: es) [] pos) (tCall sp dvs E t) := ⟨fun pins s σ H Q I h =>
  wpAny_Call_Name_kw (ld_glob I hg hm (PySem.W.callWith_K (h₀ := X.base) I.ok.mod.kin hk (thn (ha.run pos pins s σ H _ I h) fun us s1 ⟨vs, H1, I1, r, q⟩ => ⟨I1.kIn, g_run F hgd hr hb hd hx I1 r q⟩) he hpl) hdb)⟩
theorem pe_callG0 (F : FnG X.prog X.w X.K X.mg X.base CX k f fd ps sp) (hgd : X.A.guards = some []) (hr : Room k X.A) (hg : Gl X x) (hm : X.mg x = some (.ref f)) (hk : PySem.W.keepIn X.K (.ref f) = true) (hb : Binds X.K fd ps ds) (hd : Vals dvs ds)
    (hx : Passes CX X E) (hdb : (x == ("__debug__" : Str)) = false := by decide) : PE X (.Call (.Name x p) [] [] pos) (tCall sp dvs E tNil) := ⟨fun pins s σ H Q I h =>
  wpAny_Call_Name_kw (ld_glob I hg hm (PySem.W.callWith_K0 I.kIn hk (g_run (us := []) F hgd hr hb hd hx I .nil h)) hdb)⟩
end
section
variable {P : Program} {w : World} {K : Frag} {mg : Str → Option Value} {base : Heap}
/-- as def_ok, for a def that may show data -/
theorem def_okG {x qual : Str} {params : Arguments} {body : List Stmt} {scope : Scope} {dvs : List V} {kws : List (Str × V)} {f : Addr} {fd : FuncData} {N ps : List Str} {k n : Nat} {S : DSp} (F : FunD K x qual params body scope dvs kws f fd) (Sc : FnScope N ps scope) (hn : n = ps.length) {W : WX → WS}
    (hbody : ∀ (cdv : Value) (A : Around) (outer : List Env) (s : Shared) (H : Hp) (E : XK), A.guards = some [] → Room k (A.deeper (envOfC qual scope s.heap.objs.size f cdv)) → ∃ t, PSs (cxOf (L2.CX P w) P w K mg base N qual scope f cdv A outer s H E) body t ∧ ∀ Ξ, LfS K E Ξ t (W Ξ))
    (pure : ∀ ds M Qd Ed, ds.length = n → S ds M Qd Ed → W (weakX Ed) { nx := fun _ M => weakK Qd .non M, rt := weakK Qd } (startD N ds) M) : FnG P w K mg base (L2.CX P w) (k + 1) f fd ps (toSp K n S) := by
  obtain ⟨oc, od, dV, kV, doc, pm, an, cdv, ct, osl, rfl, lk, hcd, hdf, hkw⟩ := F.ex
  refine ⟨fun h => by rw [← hn]; exact h.1, fun {A outer s H args us vs Q E} hg hr e0 hb r hsp => ?_⟩
  have hl : vs.length = ps.length := by rw [← hn]; exact hsp.1
  have KX : K.In s.heap := e0.mod.kin.keeps fun b o e => (e0.bs b o e).1
  have par : ∀ y ∈ ps.zip us, scope.names.lookup y.1 = some .local ∨ (scope.names.lookup y.1 = some .cell ∧ ((cellsFrom (s.heap.objs.size + 1) scope.names []).lookup y.1).isSome = true) := fun ⟨n, v⟩ hy =>
    (Sc.par n (List.of_mem_zip hy).1).elim .inl fun q => .inr ⟨q, PySem.W.cellsFrom_some _ _ _ (.inl q)⟩
  refine codeAny_call_function hr.depth (KX _ _ lk) rfl Sc.co Sc.gen rfl (PySem.W.codeRec_of KX hcd) (hb _ _ _ _ (wpAny_newFunctionEnv_cells Sc.kind par fun env he s1 z => ?_))
  subst he
  refine ⟨(e0.mod.nolimit.keeps fun b o e => (e0.bs b o e).1).keeps z.toInCall.keep, codeAny_func ?_⟩
  obtain ⟨t, ht, l⟩ := hbody cdv A outer s H E hg (hr.deeper _)
  obtain ⟨hv, ds, M, F0, G, Qd, Ed, hS, sat, d, kk, o⟩ := hsp
  have J := inv_start (CX := L2.CX P w) (cd := cdv) (f := f) (qual := qual) (outer := outer) (E := E) Sc hr.hd e0 hl r z
  refine wpAny_mono (ht.run [] s1 _ H _ J (run_def (P := P) (l (weakX Ed)) (pure ds M Qd Ed (by rw [d.len, hv]) hS) sat d kk o)) (fun fl s2 hs => ?_) fun e s2 hs => hs
  match fl, hs with
  | .ret u, ⟨v, σ2, H2, J2, rv, q⟩ => exact ⟨v, H2, J2.os, J2.bare, J2.base, J2.hok, rv, q⟩
  | .next, ⟨σ2, H2, J2, q⟩ => exact ⟨.non, H2, J2.os, J2.bare, J2.base, J2.hok, rfl, q⟩
  | .brk, ⟨σ2, H2, J2, q⟩ => exact q.elim
  | .cont, ⟨σ2, H2, J2, q⟩ => exact q.elim
end
end DL
set_option Elab.async false
set_option linter.all false
set_option maxRecDepth 100000
namespace DL
open PySem L2 PyProof.Rows
/-- the law's def is called on the script, nothing being shown -/
theorem law_goG {P : Program} {w : World} {K : Frag} {mg mb : Str → Option Value} {k : Nat} {fa a : Addr} {fd : FuncData} {x : Str} {sp : Sp} {z : Shared} {us : List Value} {ns : List Int}
    (KX : K.In z.heap) (hns : z.heap.Ns mainGlobals mg) (hb : z.heap.Ns builtinsNs mb) (hbb : ∀ x : Str, x ≠ "__name__" → mb x = bootBuiltins x) (hlim : z.heap.NoLimit) (hg : z.gens = #[])
    (ha : z.heap.get? a = some { cls := .type "list", data := .seq us.toArray }) (hi : IntsAre us ns) (hl : ns.length ≤ sizeLine) (hr : Room k callerA)
    (Fn : ∀ base : Heap, K.In base → base.Ns mainGlobals mg → FnG P w K mg base (L2.CX P w) k fa fd [x] sp) (hbind : ∀ (s : Shared) (u : Value), BindsTo s fd ⟨[u], []⟩ [(x, u)])
    (hsp : ∀ H : Hp, Only H → SqL K H a (ns.map V.int) → sp [.ref a] H (fun v _ => v = .bl true) fun _ _ _ => False) :
    codeAny (model P w) callerA (.call (.ref fa) ⟨[.ref a], []⟩) (fun r y => r = .ok (.ret (.bool true)) ∧ OldK z.heap y.heap ∧ y.os = z.os ∧ AllBare y.gens) z := by
  have rv := vals_ints hi
  have body : ∀ H : Hp, Only H → SqL K H a (ns.map V.int) → HOk P w H z.heap → (∀ b, H b ≠ none → b = a) → (H a ≠ none → K.lookup a = none) →
      codeAny (model P w) callerA (.call (.ref fa) ⟨[.ref a], []⟩) (fun r y => r = .ok (.ret (.bool true)) ∧ OldK z.heap y.heap ∧ y.os = z.os ∧ AllBare y.gens) z := by
    intro H hO hS ok only1 outK
    have isA : ∀ {b : Addr} {u : HO}, H b = some u → b = a := fun {b u} q => only1 b (by rw [q]; simp)
    have plain : ∀ {b : Addr} {o : Obj} {es : Array DictEntry} {ep : Nat}, z.heap.get? b = some o → o.data = .dict es ep → H b = none := fun {b o es ep} e d => by
      cases q : H b with
      | none => rfl
      | some u =>
        have eb := isA q
        rw [eb, ha] at e
        cases e
        exact nomatch (show Data.seq us.toArray _ = Data.dict es ep from d)
    have ns1 : ∀ {b : Addr} {m : Str → Option Value}, z.heap.Ns b m → (hidT z.heap H).Ns b m := fun {b m} ⟨o, es, ep, e, d, r⟩ => ⟨o, es, ep, hidT_get e (plain e d), d, r⟩
    have kin : K.In (hidT z.heap H) := fun b o e => hidT_get (KX b o e) (by
      cases q : H b with
      | none => rfl
      | some u =>
        have eb := isA q
        rw [eb] at q e
        rw [outK (by rw [q]; simp)] at e
        cases e)
    have noFr : ∀ b ∈ frs ([] : List Env), H b = none := fun b hb => nomatch (show b ∈ ([] : List Addr) from hb)
    have at0 : Env0 P w K mg (hidT z.heap H) callerA [] z H :=
      ⟨rfl, ⟨kin, ns1 hns, ⟨mb, ns1 hb, hbb⟩, hlim.elim fun mc q => ⟨mc, ns1 q.1, q.2⟩⟩, fun b o e => of_hidT e, Nat.le_of_eq (hidT_size _ _), trivial, noFr, ok, .of_eq hg⟩
    refine codeAny_mono ((Fn _ kin (ns1 hns)).go (us := [.ref a]) (vs := [.ref a]) rfl hr at0 (hbind z (.ref a)) (.cons rfl .nil) (hsp H hO hS)) fun r y h => ?_
    match r, h with
    | .error e, ⟨_, _, _, _, _, _, _, _, _, _, _, _, q⟩ => exact q.elim
    | .ok .next, h => exact h.elim
    | .ok .brk, h => exact h.elim
    | .ok .cont, h => exact h.elim
    | .ok (.ret u), ⟨v, H2, os, bare, un, ok2, rr, q⟩ =>
      have ev : v = .bl true := q
      subst ev
      cases (show u = Value.bool true from rr)
      refine ⟨rfl, OldK.of_keep fun b o e => ?_, os, bare⟩
      cases t : H b with
      | none => exact un.keep b o e t (fun m => (nomatch (show b ∈ ([] : List Addr) from m))) (fun m => (nomatch m))
      | some u =>
        rcases hO b with n | ⟨ob, xs, f⟩
        · rw [t] at n; cases n
        · have e1 := (show z.heap.get? b = some ob ∧ _ from ok b _ f).1
          have e2 := (show y.heap.get? b = some ob ∧ _ from ok2 b _ (un.frzs b ob _ f)).1
          rw [e] at e1
          cases e1
          exact e2
  cases hk : K.lookup a with
  | some o =>
    have e := KX a o hk
    rw [ha] at e
    cases e
    refine body (fun _ => none) (fun _ => .inl rfl) (.inr ⟨_, us.toArray, _, hk, rfl, rfl, rfl, ?_, by simpa using rv⟩) (fun b u q => (nomatch (show (none : Option HO) = some u from q))) (fun b q => absurd rfl q) fun q => absurd rfl q
    rw [List.size_toArray, hi.length]
    exact hl
  | none =>
    have at_a : ∀ {b : Addr} {u v : HO}, (if b = a then some v else none) = some u → b = a ∧ v = u := fun {b u v} q => by
      by_cases e : b = a
      · rw [if_pos e] at q; exact ⟨e, Option.some.inj q⟩
      · rw [if_neg e] at q; cases q
    refine body (fun b => if b = a then some (.frz { cls := .type "list", data := .seq us.toArray } (.lst (ns.map V.int))) else none) (fun b => ?_) (.inl (.inr ⟨_, if_pos rfl⟩)) (fun b u q => ?_) (fun b q => ?_) fun _ => hk
    · by_cases e : b = a
      · exact .inr ⟨_, _, if_pos e⟩
      · exact .inl (if_neg e)
    · obtain ⟨e1, e2⟩ := at_a q
      subst e1 e2
      exact ⟨ha, by rw [List.length_map]; exact hl, us, _, rv, ha⟩
    · exact Classical.byContradiction fun e => q (if_neg e)
/-- a law's row, from the promise of its def over data -/
theorem walkG {l : PySem.W.OpenLaw} {n k : Nat} {q : Program} {loose : List Str} {XP : (Str → Option Value) → Heap → Prop} {YP : World → Heap → Prop} {d : DefRec} {x : Str}
    (hn : l.most = some n) (hn2 : n ≤ sizeLine) (hdf : d.params.defaults = []) (hr : Room k callerA)
    (Fn : ∀ (w : World) (mg : Str → Option Value) (fa : Addr) (h : Heap), YP w h → h.Ns mainGlobals mg → mg d.name = some (.ref fa) →
      ∃ (K : Frag) (fd : FuncData), K.In h ∧ (∀ (s : Shared) (u : Value), BindsTo s fd ⟨[u], []⟩ [(x, u)]) ∧ ∃ S : DSp, (∀ (M : Mem) (ns : List Int), ns.length ≤ n → (∀ a, M a = none) → S [.lst (ns.map D.int)] M (fun v _ => v = .bl true) fun _ _ => False) ∧
        ∀ base : Heap, K.In base → base.Ns mainGlobals mg → FnG l.prog w K mg base (L2.CX l.prog w) k fa fd [x] (toSp K 1 S)) :
    PySem.W.WalkO q loose XP YP l.row.toRowW d [] (fun f vs => PySem.call f vs) := by
  refine Att.attach_call hn hdf fun w s0 z mg mb fa o pm cd doc a us ns G Y ho hd hcd hmg hobj hints hlen hg => ?_
  obtain ⟨K, fd, KX, hb, S, hS, hF⟩ := Fn w mg fa _ Y G.T.g hmg
  refine law_goG KX G.T.g G.T.b G.T.builtins G.T.nolimit hg hobj hints (Nat.le_trans hlen hn2) hr hF hb fun H hO hq => ?_
  refine ⟨rfl, [.lst (ns.map D.int)], fun _ => none, H, fun _ => none, _, _, hS _ ns hlen (fun _ => rfl), ⟨Ext.refl, (fun _ _ e => nomatch e), (fun _ _ e => nomatch e), (fun _ _ e => nomatch e)⟩, ⟨_, [], rfl, ⟨a, _, rfl, hq, ?_⟩, rfl⟩, fun d M' v F' H' e _ _ dv => ?_, EOk.none⟩
  · exact DenL.ofMap (f := D.int) (g := V.int) (fun _ => rfl) ns
  · subst e
    exact dv
end DL
set_option Elab.async false
set_option linter.all false
set_option maxRecDepth 100000
namespace DL
open PySem L2 PyProof.Rows
section
variable {K : Frag} {E : XK} {Ξ : WX} {ta tb tc te : TE} {wa wb wc we : WE} {tl : TA} {wl : WA}
/-! ### chains, truth -/
def wChain (r r' : WR2) (wa wb wc : WE) (δ : DE) (M : Mem) (Q : WK) : Prop := wa δ M fun x M1 => wb δ M1 fun y M2 => r x y M2 fun z M3 => ∃ k, z = .bl k ∧ if k = true then wc δ M3 fun u M4 => r' y u M4 Q else Q (.bl false) M3
instance lf_chain {r r' : R2} {w w' : WR2} [a : LfE K E Ξ ta wa] [b : LfE K E Ξ tb wb] [c : LfE K E Ξ tc wc] [l : LfR K E Ξ r w] [l' : LfR K E Ξ r' w'] : LfE K E Ξ (tChain r r' ta tb tc) (wChain w w' wa wb wc) := ⟨fun {δ M Q} h {σ F G H} e s o {R} k =>
  a.run h e s o fun x M1 v F1 H1 h1 x1 s1 d1 => b.run h1 (e.ext x1) s1 (o.ext x1) fun y M2 u F2 H2 h2 x2 s2 d2 => l.run h2 s2 ((o.ext x1).ext x2) (d1.ext x2) d2 fun z M3 zv F3 H3 ⟨kk, e1, h3⟩ x3 s3 d3 => by
    subst e1
    refine ⟨kk, d3, ?_⟩
    have x123 := (x1.trans x2).trans x3
    cases kk with
    | true => exact c.run h3 (e.ext x123) s3 (o.ext x123) fun u M4 uv F4 H4 h4 x4 s4 d4 => l'.run h4 s4 (o.ext (x123.trans x4)) ((d2.ext x3).ext x4) d4 fun d M5 z F5 H5 h5 x5 s5 d5 => k d M5 z F5 H5 h5 ((x123.trans x4).trans x5) s5 d5
    | false => exact k _ M3 _ F3 H3 h3 x123 s3 rfl⟩
def tTruth (K : Frag) (ta : TE) : TT := fun σ H Q => ta σ H fun x H' => ∃ k, TruV K x H' k ∧ Q k H'
theorem pt_tru {X : Cx} {a : Expr} (ha : PE X a ta) (he : ∀ whole, isTrue a X.env whole = (do let v ← whole; standAt a.pos; holding [v] (truthy v)) := by intro _; rfl) : PT X a (tTruth X.K ta) := pt_truth ha he
def wTruth (we : WE) (δ : DE) (M : Mem) (Q : Bool → Mem → Prop) : Prop := we δ M fun x M1 => match x with
  | .non => Q false M1
  | .bl b => Q b M1
  | .int i => Q (i != 0) M1
  | .str z => z.length ≤ sizeLine ∧ Q ((z.length : Int) != 0) M1
  | .lst l => Q (!l.isEmpty) M1
  | .tup l => Q (!l.isEmpty) M1
  | .ref p => ∃ l, M1 p = some (· = .lst l) ∧ Q (!l.isEmpty) M1
  | _ => False
theorem den_isEmpty {F : Hp} {l : List D} {xs : List V} (d : DenL K F l xs) : l.isEmpty = xs.isEmpty := by
  cases l with
  | nil => rw [show xs = [] from d] <;> rfl
  | cons _ _ => obtain ⟨_, _, rfl, _⟩ := d; rfl
instance lf_truth [a : LfE K E Ξ te we] : LfT K E Ξ (tTruth K te) (wTruth we) := ⟨fun {δ M Q} h {σ F G H} e s o {R} k =>
  a.run h e s o fun x M1 v F1 H1 h1 x1 s1 d1 => by
    cases x with
    | non => cases d1; exact ⟨_, rfl, k _ M1 F1 H1 h1 x1 s1⟩
    | bl b => cases d1; exact ⟨_, rfl, k _ M1 F1 H1 h1 x1 s1⟩
    | int i => cases d1; exact ⟨_, rfl, k _ M1 F1 H1 h1 x1 s1⟩
    | str z => cases d1; exact ⟨_, ⟨h1.1, rfl⟩, k _ M1 F1 H1 h1.2 x1 s1⟩
    | lst l =>
      obtain ⟨p, xs, rfl, q, dl⟩ := d1
      exact ⟨_, .inl ⟨xs, sql_ext s1.sub q, rfl⟩, by rw [← den_isEmpty dl]; exact k _ M1 F1 H1 h1 x1 s1⟩
    | tup l =>
      obtain ⟨p, xs, rfl, q, dl⟩ := d1
      exact ⟨_, .inr (.inl ⟨xs, sqt_ext s1.sub q, rfl⟩), by rw [← den_isEmpty dl]; exact k _ M1 F1 H1 h1 x1 s1⟩
    | ref p =>
      obtain ⟨l, hp, h1⟩ := h1
      obtain ⟨p', xs, e, q, dl⟩ := lst_at s1 d1 (.inr ⟨p, rfl, hp⟩)
      subst e
      exact ⟨_, .inl ⟨xs, q, rfl⟩, by rw [← den_isEmpty dl]; exact k _ M1 F1 H1 h1 x1 s1⟩
    | _ => exact h1.elim⟩
/-! ### dict displays -/
def wPairs : List (WE × WE) → DE → Mem → (List (D × D) → Mem → Prop) → Prop
  | [], _, M, Q => Q [] M
  | (wk, wv) :: r, δ, M, Q => wk δ M fun x M1 => wv δ M1 fun y M2 => wPairs r δ M2 fun ps M3 => Q ((x, y) :: ps) M3
class LfPs (K : Frag) (E : XK) (Ξ : WX) (t : List (TE × TE)) (w : outParam (List (WE × WE))) : Prop where
  run : ∀ {δ : DE} {M : Mem} {Q : List (D × D) → Mem → Prop}, wPairs w δ M Q → ∀ {σ : L2.St} {F G H : Hp}, EnvOk K F δ σ → Sat K F M G H → EOk K F G Ξ E → ∀ {R : List (V × V) → Hp → Prop}, (∀ ps M' vs F' H', Q ps M' → Ext F F' → Sat K F' M' G H' → DenL K F' (ps.map (·.1)) (vs.map (·.1)) → DenL K F' (ps.map (·.2)) (vs.map (·.2)) → ps.length = vs.length → R vs H') → tPairs t σ H R
instance lf_psNil : LfPs K E Ξ [] [] := ⟨fun {δ M Q} h {σ F G H} e s o {R} k => k [] M [] F H h Ext.refl s rfl rfl rfl⟩
instance lf_psCons {ts : List (TE × TE)} {ws : List (WE × WE)} [a : LfE K E Ξ ta wa] [b : LfE K E Ξ tb wb] [c : LfPs K E Ξ ts ws] : LfPs K E Ξ ((ta, tb) :: ts) ((wa, wb) :: ws) := ⟨fun {δ M Q} h {σ F G H} e s o {R} k =>
  a.run h e s o fun x M1 v F1 H1 h1 x1 s1 d1 => b.run h1 (e.ext x1) s1 (o.ext x1) fun y M2 u F2 H2 h2 x2 s2 d2 => c.run h2 ((e.ext x1).ext x2) s2 ((o.ext x1).ext x2) fun ps M3 vs F3 H3 h3 x3 s3 d3 d4 hl =>
    k _ M3 ((v, u) :: vs) F3 H3 h3 ((x1.trans x2).trans x3) s3 ⟨_, _, rfl, (d1.ext x2).ext x3, d3⟩ ⟨_, _, rfl, d2.ext x3, d4⟩ (by rw [List.length_cons, List.length_cons, hl])⟩
/-- the keys are ints and texts -/
def keysOf : List (D × D) → Option (List (Key × D))
  | [] => some []
  | p :: r => match keyOf p.1, keysOf r with
    | some k, some ks => some ((k, p.2) :: ks)
    | _, _ => none
def mergeD (acc : List (Key × D)) (more : List (Key × D)) : List (Key × D) := more.foldl (fun acc kv => putD acc kv.1 kv.2) acc
theorem keys_den {F : Hp} : ∀ {ps : List (D × D)} {vs : List (V × V)} {kvs : List (Key × D)}, keysOf ps = some kvs → DenL K F (ps.map (·.1)) (vs.map (·.1)) → DenL K F (ps.map (·.2)) (vs.map (·.2)) → ps.length = vs.length →
    ∃ ws : List (Key × V), vs = ws.map (fun kv => (kV kv.1, kv.2)) ∧ DenP K F kvs ws ∧ ws.length = ps.length
  | [], vs, kvs, h, _, _, hl => by
    cases h
    have : vs = [] := List.eq_nil_of_length_eq_zero hl.symm
    subst this
    exact ⟨[], rfl, DenP.nil, rfl⟩
  | p :: r, vs, kvs, h, d1, d2, hl => by
    match vs, d1, d2, hl with
    | [], _, _, hl => cases hl
    | (v, u) :: vs, ⟨_, _, e1, dk, d3⟩, ⟨_, _, e2, dv, d4⟩, hl =>
      simp only [List.map_cons, List.cons.injEq] at e1 e2
      obtain ⟨rfl, rfl⟩ := e1
      obtain ⟨rfl, rfl⟩ := e2
      unfold keysOf at h
      cases q1 : keyOf p.1 with
      | none => rw [q1] at h; cases h
      | some k => cases q2 : keysOf r with
        | none => rw [q1, q2] at h; cases h
        | some ks =>
          rw [q1, q2] at h
          cases h
          obtain ⟨ws, e, d, l⟩ := keys_den q2 d3 d4 (by simpa using hl)
          exact ⟨(k, u) :: ws, by rw [e, key_of dk q1]; rfl, DenP.cons dv d, by simp [l]⟩
theorem denP_merge {F : Hp} : ∀ {more : List (Key × D)} {ms : List (Key × V)} {acc : List (Key × D)} {as : List (Key × V)}, DenP K F more ms → DenP K F acc as → DenP K F (mergeD acc more) (mergeK as ms)
  | [], _, _, _, h, g => by rw [denP_nil h]; exact g
  | p :: r, _, _, _, h, g => by
    obtain ⟨v, rs, rfl, dv, ht⟩ := denP_cons h
    show DenP K F (mergeD (putD _ p.1 p.2) r) (mergeK (putK _ p.1 v) rs)
    exact denP_merge ht (denP_put g dv)
theorem disp_run {trs : List (TE × TE)} {ws : List (WE × WE)} [a : LfPs K E Ξ trs ws] {δ : DE} {M : Mem} {Q : List (Key × D) → Mem → Prop} (h : wPairs ws δ M fun ps M1 => ∃ kvs, keysOf ps = some kvs ∧ ps.length ≤ 15 ∧ Q (mergeD [] kvs) M1) {σ : L2.St} {F G H : Hp} (e : EnvOk K F δ σ) (s : Sat K F M G H) (o : EOk K F G Ξ E) {R : VK}
    (k : ∀ kvs M' p ws F' H', Q kvs M' → Ext F F' → Sat K F' M' (upd G p (.dK ws)) H' → G p = none → DenP K F' kvs ws → R (.ref p) H') : tDisp trs σ H R := by
  intro p np
  have gp := s.freshG np
  refine a.run h e (s.put np) (o.aside (aside_upd gp)) fun ps M1 vs F1 H1 ⟨kvs, h1, h2, h3⟩ x1 s1 d1 d2 hl => ?_
  obtain ⟨ws, ev, dp, hw⟩ := keys_den h1 d1 d2 hl
  exact ⟨(s1.fr p _ upd_same).1, ws, ev, by rw [hw]; exact h2, k _ M1 p (mergeK [] ws) F1 _ h3 x1 s1.reput gp (denP_merge dp DenP.nil)⟩
/-- a dict that will be changed -/
def tDispC (trs : List (TE × TE)) : TE := tDisp trs
def wDispC (ws : List (WE × WE)) : WE := fun δ M Q => wPairs ws δ M fun ps M1 => ∃ kvs, keysOf ps = some kvs ∧ ps.length ≤ 15 ∧ ∀ p, M1 p = none → Q (.ref p) (mset M1 p (· = .dic (mergeD [] kvs)))
instance lf_dispC {trs : List (TE × TE)} {ws : List (WE × WE)} [a : LfPs K E Ξ trs ws] : LfE K E Ξ (tDispC trs) (wDispC ws) := ⟨fun {δ M Q} h {σ F G H} e s o {R} k =>
  disp_run (Q := fun kvs M1 => ∀ p, M1 p = none → Q (.ref p) (mset M1 p (· = .dic kvs))) h e s o fun kvs M1 p ws F1 H1 h1 x1 s1 gp dp => by
    obtain ⟨q1, q2, q3⟩ := s1.fr p _ upd_same
    refine k _ _ _ F1 H1 (h1 p q3) x1 ⟨s1.sub, fun a φ e => ?_, fun a φ e => ?_, fun a u e => ?_⟩ rfl
    · by_cases z : a = p
      · subst z; exact q2
      · rw [mset_ne z] at e; exact s1.dis a φ e
    · by_cases z : a = p
      · subst z; rw [mset_same] at e; cases e; exact ⟨_, q1, _, rfl, _, rfl, dp⟩
      · rw [mset_ne z] at e; exact s1.mem a φ e
    · have z := ne_of_none e gp
      rw [mset_ne z]
      exact s1.fr a u (by rw [upd_ne z]; exact e)⟩
/-- a dict that is never changed -/
def wDisp (ws : List (WE × WE)) : WE := fun δ M Q => wPairs ws δ M fun ps M1 => ∃ kvs, keysOf ps = some kvs ∧ ps.length ≤ 15 ∧ Q (.dic ((mergeD [] kvs).map Prod.fst) ((mergeD [] kvs).map Prod.snd)) M1
theorem zip_maps {α β : Type} : ∀ l : List (α × β), (l.map Prod.fst).zip (l.map Prod.snd) = l
  | [] => rfl
  | p :: r => by rw [List.map_cons, List.map_cons, List.zip_cons_cons, zip_maps r]
instance lf_disp {trs : List (TE × TE)} {ws : List (WE × WE)} [a : LfPs K E Ξ trs ws] : LfE K E Ξ (tDisp trs) (wDisp ws) := ⟨fun {δ M Q} h {σ F G H} e s o {R} k =>
  disp_run (Q := fun (kvs : List (Key × D)) M1 => Q (.dic (kvs.map Prod.fst) (kvs.map Prod.snd)) M1) h e s o fun kvs M1 p ws F1 H1 h1 x1 s1 gp dp => by
    obtain ⟨x2, s2⟩ := s1.settle gp
    refine k _ _ _ _ H1 h1 (x1.trans x2) s2 ⟨p, ws.map (·.2), rfl, ?_, ?_, dp.2.ext x2⟩
    · rw [dp.1, zip_maps, upd_same]
    · rw [List.length_map, List.length_map, dp.len]⟩
/-- {} -/
def wDNewC (_ : DE) (M : Mem) (Q : WK) : Prop := ∀ p, M p = none → Q (.ref p) (mset M p (· = .dic []))
def tDNewC : TE := tDNewK
instance lf_dnewC : LfE K E Ξ tDNewC wDNewC := ⟨fun {δ M Q} h {σ F G H} e s o {R} k p np => k _ _ _ F _ (h p (s.freshM np)) Ext.refl (s.cell np ⟨_, rfl, _, rfl, DenP.nil⟩) rfl⟩
instance lf_dnew : LfE K E Ξ tDNewK (wC (.dic [] [])) := ⟨fun {δ M Q} h {σ F G H} e s o {R} k p np => k _ M _ _ _ h (Ext.new (s.freshF np)) (s.new np) ⟨p, [], rfl, upd_same, rfl, rfl⟩⟩
theorem pe_dispC {X : Cx} {pos : Pos} {keys : List (Option Expr)} {values : List Expr} {trs : List (TE × TE)} (h : PE X (.Dict keys values pos) (tDisp trs)) : PE X (.Dict keys values pos) (tDispC trs) := h
theorem pe_lstC {X : Cx} {es : List Expr} {pos : Pos} {t : TA} (h : PE X (.List es pos) (tLst t)) : PE X (.List es pos) (tLstC t) := h
theorem pe_dnewC {X : Cx} {pos : Pos} : PE X (.Dict [] [] pos) tDNewC := pe_dnewK
/-! ### the module's constants -/
theorem pe_gs {X : Cx} {x z : Str} {pos : Pos} (h : ∃ t, X.mg x = some (.str z t)) (hg : Gl X x := by rfl) (hd : (x == ("__debug__" : Str)) = false := by decide) : PE X (.Name x pos) (tC (.str z)) := by
  obtain ⟨t, h⟩ := h
  exact pe_glob hg h ⟨t, rfl⟩ hd
theorem pe_gi {X : Cx} {x : Str} {i : Int} {pos : Pos} (h : ∃ t, X.mg x = some (.int i t)) (hg : Gl X x := by rfl) (hd : (x == ("__debug__" : Str)) = false := by decide) : PE X (.Name x pos) (tC (.int i)) := by
  obtain ⟨t, h⟩ := h
  exact pe_glob hg h ⟨t, rfl⟩ hd
theorem pe_gr {X : Cx} {x : Str} {a : Addr} {pos : Pos} (h : X.mg x = some (.ref a)) (hg : Gl X x := by rfl) (hd : (x == ("__debug__" : Str)) = false := by decide) : PE X (.Name x pos) (tC (.ref a)) := pe_glob hg h rfl hd
theorem pe_ty {X : Cx} {x : Str} {n : String} {pos : Pos} (h : X.mg x = none) (hb : bootBuiltins x = some (.type n)) (hg : Gl X x := by rfl) (hn : x ≠ "__name__" := by decide) (hd : (x == ("__debug__" : Str)) = false := by decide) : PE X (.Name x pos) (tC (.ty n)) := pe_bltn hg h hb rfl hn hd
/-- a tuple of the module's top -/
class KTup (K : Frag) (a : Addr) (ds : outParam (List D)) : Prop where
  den : ∀ F : Hp, Den K F (.tup ds) (.ref a)
def tKT (a : Addr) : TE := tC (.ref a)
instance lf_kt {a : Addr} {ds : List D} [c : KTup K a ds] : LfE K E Ξ (tKT a) (wC (.tup ds)) := ⟨fun {δ M Q} h {σ F G H} e s o {R} k => k _ M _ F H h Ext.refl s (c.den F)⟩
theorem pe_gt {X : Cx} {x : Str} {a : Addr} {pos : Pos} (h : X.mg x = some (.ref a)) (hg : Gl X x := by rfl) (hd : (x == ("__debug__" : Str)) = false := by decide) : PE X (.Name x pos) (tKT a) := pe_glob hg h rfl hd
end
/-! ### a def by its name -/
/-- it stands in the text, of no defaults -/
def Def1 (K : Frag) (mg : Str → Option Value) (x : Str) (st : Stmt) : Prop := ∃ f fd, mg x = some (.ref f) ∧ FunD K x x (defArgs st) (defBody st) (defScope st) [] [] f fd
/-- it keeps its promise -/
structure Fn1 (P : Program) (w : World) (K : Frag) (mg : Str → Option Value) (base : Heap) (k : Nat) (x : Str) (st : Stmt) (ps : List Str) (n : Nat) (S : DSp) : Prop where
  ex : ∃ f fd, mg x = some (.ref f) ∧ FunD K x x (defArgs st) (defBody st) (defScope st) [] [] f fd ∧ Binds K fd ps [] ∧ FnOk P w K mg base (L2.CX P w) k f fd ps (toSp K n S)
structure Fn1G (P : Program) (w : World) (K : Frag) (mg : Str → Option Value) (base : Heap) (k : Nat) (x : Str) (st : Stmt) (ps : List Str) (n : Nat) (S : DSp) : Prop where
  ex : ∃ f fd, mg x = some (.ref f) ∧ FunD K x x (defArgs st) (defBody st) (defScope st) [] [] f fd ∧ Binds K fd ps [] ∧ FnG P w K mg base (L2.CX P w) k f fd ps (toSp K n S)
section
variable {P : Program} {w : World} {K : Frag} {mg : Str → Option Value} {base : Heap}
theorem fn1 {x : Str} {st : Stmt} {N ps : List Str} {k n : Nat} {S : DSp} (D : Def1 K mg x st) (Sc : FnScope N ps (defScope st)) (hn : n = ps.length)
    (hb : ∀ (kV doc pm : Value) (an : Option Addr) (cdv ct : Value) (us : List Value), us.length = ps.length → bindArgs (PySem.W.fnOf x x (defArgs st) (defBody st) (defScope st) .none kV doc pm an cdv ct) ⟨us, []⟩ = pure (ps.zip us)) {W : WX → WS}
    (hbody : ∀ (f : Addr) (cdv : Value) (A : Around) (outer : List Env) (s : Shared) (H : Hp) (E : XK), Room k (A.deeper (envOfC x (defScope st) s.heap.objs.size f cdv)) → ∃ t, PSs (cxOf (L2.CX P w) P w K mg base N x (defScope st) f cdv A outer s H E) (defBody st) t ∧ ∀ Ξ, LfS K E Ξ t (W Ξ))
    (pure : ∀ ds M Qd Ed, ds.length = n → S ds M Qd Ed → W (weakX Ed) { nx := fun _ M => weakK Qd .non M, rt := weakK Qd } (startD N ds) M) : Fn1 P w K mg base (k + 1) x st ps n S := by
  obtain ⟨f, fd, g, F⟩ := D
  exact ⟨f, fd, g, F, F.bindsN hb, def_ok F Sc hn (hbody f) pure⟩
theorem fn1G {x : Str} {st : Stmt} {N ps : List Str} {k n : Nat} {S : DSp} (D : Def1 K mg x st) (Sc : FnScope N ps (defScope st)) (hn : n = ps.length)
    (hb : ∀ (kV doc pm : Value) (an : Option Addr) (cdv ct : Value) (us : List Value), us.length = ps.length → bindArgs (PySem.W.fnOf x x (defArgs st) (defBody st) (defScope st) .none kV doc pm an cdv ct) ⟨us, []⟩ = pure (ps.zip us)) {W : WX → WS}
    (hbody : ∀ (f : Addr) (cdv : Value) (A : Around) (outer : List Env) (s : Shared) (H : Hp) (E : XK), A.guards = some [] → Room k (A.deeper (envOfC x (defScope st) s.heap.objs.size f cdv)) → ∃ t, PSs (cxOf (L2.CX P w) P w K mg base N x (defScope st) f cdv A outer s H E) (defBody st) t ∧ ∀ Ξ, LfS K E Ξ t (W Ξ))
    (pure : ∀ ds M Qd Ed, ds.length = n → S ds M Qd Ed → W (weakX Ed) { nx := fun _ M => weakK Qd .non M, rt := weakK Qd } (startD N ds) M) : Fn1G P w K mg base (k + 1) x st ps n S := by
  obtain ⟨f, fd, g, F⟩ := D
  exact ⟨f, fd, g, F, F.bindsN hb, def_okG F Sc hn (hbody f) pure⟩
theorem Fn1.g {k n : Nat} {x : Str} {st : Stmt} {ps : List Str} {S : DSp} (F : Fn1 P w K mg base k x st ps n S) : Fn1G P w K mg base k x st ps n S := by
  obtain ⟨f, fd, a, b, c, d⟩ := F.ex
  exact ⟨f, fd, a, b, c, FnG.of d⟩
end
section
variable {X : Cx} {k j n : Nat} {x : Str} {st : Stmt} {ps : List Str} {S : DSp} {E : XK} {p pos : Pos} {e : Expr} {es : List Expr} {t : TA}
theorem pe_fn (F : Fn1 X.prog X.w X.K X.mg X.base k x st ps n S) (hr : Room j X.A) (hj : Nat.ble k j = true) (hx : Passes (L2.CX X.prog X.w) X E) (ha : PA X (e :: es) t) (hg : Gl X x := by rfl) (hdb : (x == ("__debug__" : Str)) = false := by decide)
    (he : starEach (e :: es) X.env = (false, eval e X.env) :: starEach es X.env := by rfl) (hpl : (backTo pos (starEach es X.env)).any (·.1) = false := by rfl) : PE X (.Call (.Name x p) (e :: es) [] pos) (tCall (toSp X.K n S) [] E t) := by
  obtain ⟨f, fd, a, b, c, d⟩ := F.ex
  exact pe_call d (hr.mono (Nat.le_of_ble_eq_true hj)) hg a b.kp c .nil hx ha hdb he hpl
theorem pe_fn0 (F : Fn1 X.prog X.w X.K X.mg X.base k x st ps n S) (hr : Room j X.A) (hj : Nat.ble k j = true) (hx : Passes (L2.CX X.prog X.w) X E) (hg : Gl X x := by rfl) (hdb : (x == ("__debug__" : Str)) = false := by decide) :
    PE X (.Call (.Name x p) [] [] pos) (tCall (toSp X.K n S) [] E tNil) := by
  obtain ⟨f, fd, a, b, c, d⟩ := F.ex
  exact pe_call0 d (hr.mono (Nat.le_of_ble_eq_true hj)) hg a b.kp c .nil hx hdb
theorem pe_fnG (F : Fn1G X.prog X.w X.K X.mg X.base k x st ps n S) (hgd : X.A.guards = some []) (hr : Room j X.A) (hj : Nat.ble k j = true) (hx : Passes (L2.CX X.prog X.w) X E) (ha : PA X (e :: es) t) (hg : Gl X x := by rfl) (hdb : (x == ("__debug__" : Str)) = false := by decide)
    (he : starEach (e :: es) X.env = (false, eval e X.env) :: starEach es X.env := by rfl) (hpl : (backTo pos (starEach es X.env)).any (·.1) = false := by rfl) : PE X (.Call (.Name x p) (e :: es) [] pos) (tCall (toSp X.K n S) [] E t) := by
  obtain ⟨f, fd, a, b, c, d⟩ := F.ex
  exact pe_callG d hgd (hr.mono (Nat.le_of_ble_eq_true hj)) hg a b.kp c .nil hx ha hdb he hpl
end
abbrev noX : WX := fun _ _ => False
end DL
set_option Elab.async false
set_option linter.all false
set_option maxRecDepth 100000
namespace DL
open PySem L2 PyProof.Rows
/-! ### the rules, the written part K named -/
section
variable {X : Cx} {K : Frag} {E : XK} {k j n : Nat} {x m : Str} {st : Stmt} {ps ks : List Str} {S : DSp} {p pos apos cpos : Pos} {e o a b c : Expr} {es : List Expr} {ta tb tc te to : TE} {t : TA} {tt : TT}
theorem k_add (h : X.K = K := by rfl) : OpR X (binaryOp .Add) (rAddA K) := h ▸ op_addA
theorem k_sub : OpR X (binaryOp .Sub) (rI0 fun i j => .int (i - j)) := op_sub
theorem k_mul : OpR X (binaryOp .Mult) (rI CMulW fun i j => .int (i * j)) := op_mulW
theorem k_div : OpR X (binaryOp .FloorDiv) (rI CDivW fun i j => .int (i / j)) := op_fdivW
theorem k_mod : OpR X (binaryOp .Mod) (rI (fun _ j => 0 < j) fun i j => .int (i % j)) := op_mod
theorem k_pow : OpR X (binaryOp .Pow) (rI CPow fun i j => .int (i ^ j.toNat)) := op_pow
theorem k_eq (hr : Room j X.A) (h : X.K = K := by rfl) : OpR X (compareOp .Eq) (rEqA K) := h ▸ op_eqA hr.units
theorem k_ne (hr : Room j X.A) (h : X.K = K := by rfl) : OpR X (compareOp .NotEq) (rNeA K) := h ▸ op_neA hr.units
theorem k_in (hr : Room j X.A) (h : X.K = K := by rfl) : OpR X (compareOp .In) (rInA K false) := h ▸ op_inA (hu_of hr)
theorem k_notIn (hr : Room j X.A) (h : X.K = K := by rfl) : OpR X (compareOp .NotIn) (rInA K true) := h ▸ op_notInA (hu_of hr)
theorem pe_ixK (hr : Room j X.A) (ha : PE X a ta) (hb : PE X b tb) (h : X.K = K := by rfl) (hs : PlainIx b := by exact fun _ _ => rfl) : PE X (.Subscript a b pos) (tOp (rIxA K) ta tb) := h ▸ pe_ix (ix_all (hu_of hr)) ha hb hs
theorem pe_slK {lo hi : Option Expr} {tl th : TO} {p2 : Pos} (he : PE X e te) (hl : PO X lo tl) (hu : PO X hi th) (h : X.K = K := by rfl) : PE X (.Subscript e (.Slice lo hi none p2) pos) (tSl (rSlX K) te tl th) := h ▸ pe_slice sl_all he hl hu
theorem pt_trK (ha : PE X a ta) (h : X.K = K := by rfl) (he : ∀ whole, isTrue a X.env whole = (do let v ← whole; standAt a.pos; holding [v] (truthy v)) := by intro _; rfl) : PT X a (tTruth K ta) := h ▸ pt_tru ha he
theorem pi_seqK {tg l : Expr} {tl : TE} (hl : PE X l tl) (h : X.K = K := by rfl) : PI X tg l (iSeq K tl) := h ▸ pi_seq hl
theorem pg_tupK {es : List Expr} {kk : Nat} {g : TGs} (h : PGs X es g) (hc : X.calm = true := by rfl) (hK : X.K = K := by rfl) (hn : (assignEach es X.env).length = es.length := by rfl) (hst : (assignEach es X.env).findIdx? (·.1) = none := by rfl) : PG X (.Tuple es kk pos) (gTup K es.length g) := by
  subst hK
  exact pg_tup hc h hn hst
theorem pe_fnK (F : Fn1 X.prog X.w K X.mg X.base k x st ps n S) (hr : Room j X.A) (hj : Nat.ble k j = true) (hx : Passes (L2.CX X.prog X.w) X E) (ha : PA X (e :: es) t) (hK : X.K = K := by rfl) (hg : Gl X x := by rfl) (hdb : (x == ("__debug__" : Str)) = false := by decide)
    (he : starEach (e :: es) X.env = (false, eval e X.env) :: starEach es X.env := by rfl) (hpl : (backTo pos (starEach es X.env)).any (·.1) = false := by rfl) : PE X (.Call (.Name x p) (e :: es) [] pos) (tCall (toSp K n S) [] E t) := by
  subst hK
  exact pe_fn F hr hj hx ha hg hdb he hpl
theorem pe_fn0K (F : Fn1 X.prog X.w K X.mg X.base k x st ps n S) (hr : Room j X.A) (hj : Nat.ble k j = true) (hx : Passes (L2.CX X.prog X.w) X E) (hK : X.K = K := by rfl) (hg : Gl X x := by rfl) (hdb : (x == ("__debug__" : Str)) = false := by decide) :
    PE X (.Call (.Name x p) [] [] pos) (tCall (toSp K n S) [] E tNil) := by
  subst hK
  exact pe_fn0 F hr hj hx hg hdb
theorem pe_fnGK (F : Fn1G X.prog X.w K X.mg X.base k x st ps n S) (hgd : X.A.guards = some []) (hr : Room j X.A) (hj : Nat.ble k j = true) (hx : Passes (L2.CX X.prog X.w) X E) (ha : PA X (e :: es) t) (hK : X.K = K := by rfl) (hg : Gl X x := by rfl) (hdb : (x == ("__debug__" : Str)) = false := by decide)
    (he : starEach (e :: es) X.env = (false, eval e X.env) :: starEach es X.env := by rfl) (hpl : (backTo pos (starEach es X.env)).any (·.1) = false := by rfl) : PE X (.Call (.Name x p) (e :: es) [] pos) (tCall (toSp K n S) [] E t) := by
  subst hK
  exact pe_fnG F hgd hr hj hx ha hg hdb he hpl
/-! keywords, in the order of the parameters -/
def gA {α : Type} (a b : List α) : List α := a ++ b
theorem kbn {st : Stmt} {f : Addr} {fd : FuncData} {np : Nat} (F : FunD K x x (defArgs st) (defBody st) (defScope st) [] [] f fd)
    (hb : ∀ (kV doc pm : Value) (an : Option Addr) (cdv ct : Value) (us ws : List Value), us.length = np → ws.length = ks.length → bindArgs (PySem.W.fnOf x x (defArgs st) (defBody st) (defScope st) .none kV doc pm an cdv ct) ⟨us, ks.zip ws⟩ = pure (ps.zip (us ++ ws))) : KBn K fd ps np ks gA gA := by
  obtain ⟨oc, od, dV, kV, doc, pm, an, cdv, ct, osl, rfl, _, _, hd, _⟩ := F.ex
  obtain rfl : dV = .none := hd.elim (fun q => q.2) fun q => absurd rfl q.1
  exact ⟨fun s us ws _ h1 h2 => .of_eq (hb kV doc pm an cdv ct us ws h1 h2), fun r1 r2 => r1.append r2⟩
theorem pe_kw0 {kws : List Keyword} {tk : TA} (F : Fn1 X.prog X.w K X.mg X.base k x st ps n S) (hr : Room j X.A) (hj : Nat.ble k j = true) (hx : Passes (L2.CX X.prog X.w) X E) (hkw : PK X kws tk)
    (hb : ∀ (kV doc pm : Value) (an : Option Addr) (cdv ct : Value) (us ws : List Value), us.length = 0 → ws.length = ks.length → bindArgs (PySem.W.fnOf x x (defArgs st) (defBody st) (defScope st) .none kV doc pm an cdv ct) ⟨us, ks.zip ws⟩ = pure (ps.zip (us ++ ws)))
    (hK : X.K = K := by rfl) (hg : Gl X x := by rfl) (hall : (backToKw pos (keywordEach kws X.env)).all (·.1.isSome) = true := by rfl) (hks : (backToKw pos (keywordEach kws X.env)).filterMap (·.1) = ks := by rfl) (hdb : (x == ("__debug__" : Str)) = false := by decide)
    (hpl : ((backTo pos (starEach [] X.env)).any (·.1) || (backToKw pos (keywordEach kws X.env)).any (·.1.isNone)) = false := by rfl) : PE X (.Call (.Name x p) [] kws pos) (tCallN 0 ks.length (toSp K n S) gA E tNil tk) := by
  subst hK
  obtain ⟨f, fd, a, b, _, d⟩ := F.ex
  refine ⟨fun pins s σ H Q I h => wpAny_Call_Name_kw (ld_glob I hg a (PySem.W.callWith_KW0 (h₀ := X.base) I.ok.mod.kin b.kp hall (thn (hkw.run pos pins s σ H _ I h) fun ws s2 ⟨zs, H2, I2, rz, l1, l2, q2⟩ => ⟨I2.kIn, ?_⟩) hpl) hdb)⟩
  rw [hks]
  exact run_fnN (us := []) (vs := []) d (hr.mono (Nat.le_of_ble_eq_true hj)) (kbn b hb) hx I2 .nil rz rfl l2 q2
theorem pe_kw {kws : List Keyword} {tk : TA} {np : Nat} (F : Fn1 X.prog X.w K X.mg X.base k x st ps n S) (hr : Room j X.A) (hj : Nat.ble k j = true) (hx : Passes (L2.CX X.prog X.w) X E) (ha : PA X (e :: es) t) (hkw : PK X kws tk)
    (hb : ∀ (kV doc pm : Value) (an : Option Addr) (cdv ct : Value) (us ws : List Value), us.length = np → ws.length = ks.length → bindArgs (PySem.W.fnOf x x (defArgs st) (defBody st) (defScope st) .none kV doc pm an cdv ct) ⟨us, ks.zip ws⟩ = pure (ps.zip (us ++ ws)))
    (hK : X.K = K := by rfl) (hg : Gl X x := by rfl) (hall : (backToKw pos (keywordEach kws X.env)).all (·.1.isSome) = true := by rfl) (hks : (backToKw pos (keywordEach kws X.env)).filterMap (·.1) = ks := by rfl) (hdb : (x == ("__debug__" : Str)) = false := by decide)
    (he : starEach (e :: es) X.env = (false, eval e X.env) :: starEach es X.env := by rfl) (hpl : ((backTo pos (starEach (e :: es) X.env)).any (·.1) || (backToKw pos (keywordEach kws X.env)).any (·.1.isNone)) = false := by rfl) :
    PE X (.Call (.Name x p) (e :: es) kws pos) (tCallN np ks.length (toSp K n S) gA E t tk) := by
  subst hK
  obtain ⟨f, fd, a, b, _, d⟩ := F.ex
  exact pe_callN d (hr.mono (Nat.le_of_ble_eq_true hj)) hg a b.kp (kbn b hb) hx ha hkw hall hks hdb he hpl
def wCallN (np nk n : Nat) (S : DSp) (Ξ : WX) (wl wk : WA) (δ : DE) (M : Mem) (Q : WK) : Prop := wl δ M fun xs M1 => wk δ M1 fun ys M2 => xs.length = np ∧ ys.length = nk ∧ (xs ++ ys).length = n ∧ S (xs ++ ys) M2 Q Ξ
instance lf_callN {Ξ : WX} {np nk n : Nat} {tk : TA} {wl wk : WA} [la : LfA K E Ξ t wl] [lb : LfA K E Ξ tk wk] : LfE K E Ξ (tCallN np nk (toSp K n S) gA E t tk) (wCallN np nk n S Ξ wl wk) := ⟨fun {δ M Q} h {σ F G H} e s o {R} kk =>
  la.run h e s o fun xs M1 vs F1 H1 h1 x1 s1 d1 => lb.run h1 (e.ext x1) s1 (o.ext x1) fun ys M2 us F2 H2 ⟨h2, h3, h4, h5⟩ x2 s2 d2 =>
    ⟨by rw [← d1.len, h2], by rw [← d2.len, h3], call_run h4 h5 s2 ((d1.ext x2).append d2) ((o.ext x1).ext x2) fun d M' v F' H' q x3 s3 d3 => kk d M' v F' H' q ((x1.trans x2).trans x3) s3 d3⟩⟩
instance lf_callN0 {Ξ : WX} {np nk n : Nat} {tk : TA} {wl wk : WA} [la : LfA K E Ξ t wl] [lb : LfA K E Ξ tk wk] : LfE K E Ξ (tCallN np nk (toSp K n S) gA E0 t tk) (wCallN np nk n S (fun _ _ => False) wl wk) := ⟨fun {δ M Q} h {σ F G H} e s o {R} kk =>
  la.run h e s o fun xs M1 vs F1 H1 h1 x1 s1 d1 => lb.run h1 (e.ext x1) s1 (o.ext x1) fun ys M2 us F2 H2 ⟨h2, h3, h4, h5⟩ x2 s2 d2 =>
    ⟨by rw [← d1.len, h2], by rw [← d2.len, h3], call_run h4 h5 s2 ((d1.ext x2).append d2) EOk.none fun d M' v F' H' q x3 s3 d3 => kk d M' v F' H' q ((x1.trans x2).trans x3) s3 d3⟩⟩
/-! calls of built-ins -/
theorem b_len (h : X.K = K := by rfl) : CallR X (.builtin "len") (rLenA K) := h ▸ call_lenA
theorem b_all (hc : X.calm = true := by rfl) (h : X.K = K := by rfl) : CallR X (.builtin "all") (rAll K) := h ▸ cr_all hc
theorem b_any (hc : X.calm = true := by rfl) (h : X.K = K := by rfl) : CallR X (.builtin "any") (rAny K) := h ▸ cr_any hc
theorem b_min (hc : X.calm = true := by rfl) : CallR X (.builtin "min") rMin2 := call_min2 hc
theorem b_max (hc : X.calm = true := by rfl) : CallR X (.builtin "max") rMax2 := call_max2 hc
theorem b_isinstance (h : X.K = K := by rfl) : CallR X (.builtin "isinstance") (rIsi K) := h ▸ call_isi
theorem b_repr (hg : X.A.guards = some []) (hr : Room j X.A) (h : X.K = K := by rfl) : CallR X (.builtin "repr") (rRepr K) := h ▸ call_reprA hg hr.units
theorem b_str : CallR X (.type "str") rStr := call_strA
theorem b_int : CallR X (.type "int") rInt := call_intA
theorem b_list (h : X.K = K := by rfl) : CallR X (.type "list") (rListO K) := h ▸ call_listO
theorem b_tuple (h : X.K = K := by rfl) : CallR X (.type "tuple") (rTupO K) := h ▸ call_tupO
/-! methods of texts -/
theorem pe_joinK (ho : PE X o to) (ha : PA X [e] t) (h : X.K = K := by rfl) (hbase : attributeBase o "join" X.env (eval o X.env) = eval o X.env := by rfl)
    (hfew : ((backTo cpos (starEach [e] X.env)).all (fun x => !x.1) && (backToKw cpos (keywordEach [] X.env)).all (fun x => x.1.isSome) && decide ([e].length + ([] : List Keyword).length + (if ([] : List Keyword).isEmpty then 0 else 1) < 30)) = true := by rfl)
    (hline : (apos.endLine == cpos.line) = true := by rfl) (hs : starEach [e] X.env = (false, eval e X.env) :: starEach [] X.env := by rfl) (hplain : (backTo cpos (starEach [] X.env)).any (·.1) = false := by rfl) :
    PE X (.Call (.Attribute o "join" apos) [e] [] cpos) (tBM K "str" (rJoin K) to t) := by
  subst h
  exact pe_bm PySem.F.plainAttrs_str PySem.F.slot_str_join PySem.F.type_str_join mt_join' ho ha hbase hfew hline hs hplain
end
abbrev wYes : WT := fun _ M Q => Q true M
end DL
set_option Elab.async false
set_option linter.all false
set_option maxRecDepth 100000
namespace DL
open PySem L2 PyProof.Rows
/-! ### the draws of a law: the cells of the script, two counters, what is left of a cell; n bounds the draws so far -/
def drawKvs (cs : List Int) (a l u : Int) : List (Key × D) := [(.inr "cells", .lst (cs.map .int)), (.inr "at", .int a), (.inr "left", .int l), (.inr "used", .int u)]
def Draw (n : Nat) : MB → Prop := fun mb => ∃ (cs : List Int) (a l u : Int), mb = .dic (drawKvs cs a l u) ∧ cs ≠ [] ∧ cs.length ≤ 64 ∧ 0 ≤ a ∧ a ≤ n ∧ 0 ≤ l ∧ 0 ≤ u ∧ u ≤ n
theorem lk_cells {cs : List Int} {a l u : Int} : lk (drawKvs cs a l u) (.inr "cells") = some (.lst (cs.map .int)) := rfl
theorem lk_at {cs : List Int} {a l u : Int} : lk (drawKvs cs a l u) (.inr "at") = some (.int a) := by
  have h0 : ¬ ((Sum.inr ("cells" : Str) : Key) = Sum.inr ("at" : Str)) := by decide +kernel
  unfold drawKvs
  simp [lk, h0]
theorem lk_left {cs : List Int} {a l u : Int} : lk (drawKvs cs a l u) (.inr "left") = some (.int l) := by
  have h0 : ¬ ((Sum.inr ("cells" : Str) : Key) = Sum.inr ("left" : Str)) := by decide +kernel
  have h1 : ¬ ((Sum.inr ("at" : Str) : Key) = Sum.inr ("left" : Str)) := by decide +kernel
  unfold drawKvs
  simp [lk, h0, h1]
theorem lk_used {cs : List Int} {a l u : Int} : lk (drawKvs cs a l u) (.inr "used") = some (.int u) := by
  have h0 : ¬ ((Sum.inr ("cells" : Str) : Key) = Sum.inr ("used" : Str)) := by decide +kernel
  have h1 : ¬ ((Sum.inr ("at" : Str) : Key) = Sum.inr ("used" : Str)) := by decide +kernel
  have h2 : ¬ ((Sum.inr ("left" : Str) : Key) = Sum.inr ("used" : Str)) := by decide +kernel
  unfold drawKvs
  simp [lk, h0, h1, h2]
theorem put_at {cs : List Int} {a l u v : Int} : putD (drawKvs cs a l u) (.inr "at") (.int v) = drawKvs cs v l u := by
  have h1 : ¬ ((Sum.inr ("cells" : Str) : Key) = Sum.inr ("at" : Str)) := by decide +kernel
  have h2 : ¬ ((Sum.inr ("left" : Str) : Key) = Sum.inr ("at" : Str)) := by decide +kernel
  have h3 : ¬ ((Sum.inr ("used" : Str) : Key) = Sum.inr ("at" : Str)) := by decide +kernel
  unfold putD drawKvs
  simp [h1, h2, h3]
theorem put_left {cs : List Int} {a l u v : Int} : putD (drawKvs cs a l u) (.inr "left") (.int v) = drawKvs cs a v u := by
  have h1 : ¬ ((Sum.inr ("cells" : Str) : Key) = Sum.inr ("left" : Str)) := by decide +kernel
  have h2 : ¬ ((Sum.inr ("at" : Str) : Key) = Sum.inr ("left" : Str)) := by decide +kernel
  have h3 : ¬ ((Sum.inr ("used" : Str) : Key) = Sum.inr ("left" : Str)) := by decide +kernel
  unfold putD drawKvs
  simp [h1, h2, h3]
theorem put_used {cs : List Int} {a l u v : Int} : putD (drawKvs cs a l u) (.inr "used") (.int v) = drawKvs cs a l v := by
  have h1 : ¬ ((Sum.inr ("cells" : Str) : Key) = Sum.inr ("used" : Str)) := by decide +kernel
  have h2 : ¬ ((Sum.inr ("at" : Str) : Key) = Sum.inr ("used" : Str)) := by decide +kernel
  have h3 : ¬ ((Sum.inr ("left" : Str) : Key) = Sum.inr ("used" : Str)) := by decide +kernel
  unfold putD drawKvs
  simp [h1, h2, h3]
theorem merge_draw {cs : List Int} {a l u : Int} : mergeD [] (drawKvs cs a l u) = drawKvs cs a l u := by
  have h1 : ¬ ((Sum.inr ("cells" : Str) : Key) = Sum.inr ("at" : Str)) := by decide +kernel
  have h2 : ¬ ((Sum.inr ("cells" : Str) : Key) = Sum.inr ("left" : Str)) := by decide +kernel
  have h3 : ¬ ((Sum.inr ("at" : Str) : Key) = Sum.inr ("left" : Str)) := by decide +kernel
  have h4 : ¬ ((Sum.inr ("cells" : Str) : Key) = Sum.inr ("used" : Str)) := by decide +kernel
  have h5 : ¬ ((Sum.inr ("at" : Str) : Key) = Sum.inr ("used" : Str)) := by decide +kernel
  have h6 : ¬ ((Sum.inr ("left" : Str) : Key) = Sum.inr ("used" : Str)) := by decide +kernel
  unfold mergeD drawKvs
  simp [putD, h1, h2, h3, h4, h5, h6]
theorem draw_len {cs : List Int} {a l u : Int} : (drawKvs cs a l u).length < sizeLine := by
  rw [sizeLine_eq]
  exact (by decide : 4 < 16777216)
theorem cmulW {i j : Int} (hi : i.natAbs < 2 ^ 400) (hj : j.natAbs < 2 ^ 400) : CMulW i j := wide_mul hi hj (by decide) (by decide) (by decide)
theorem cdivW {i j : Int} (h : 0 < j) (hj : j < 2 ^ 64) : CDivW i j := wide_div (b := 64) h (by omega) (by decide) (by decide)
theorem small {n : Nat} (h : n ≤ 100000) : n ≤ sizeLine := Nat.le_trans h (by rw [sizeLine_eq]; decide)
theorem atI_some {α : Type} {l : List α} {i : Int} (h0 : 0 ≤ i) (h1 : i < l.length) : ∃ x, atI l i = some x ∧ x ∈ l := by
  have e : ixN l.length i = some i.toNat := by unfold ixN; rw [if_pos h0, if_pos h1]
  refine ⟨l[i.toNat]'(by omega), ?_, List.getElem_mem _⟩
  unfold atI
  rw [e]
  show l[i.toNat]? = _
  rw [List.getElem?_eq_getElem]
theorem ixM_cells {cs : List Int} {a l u : Int} : ixM (.dic (drawKvs cs a l u)) (.str "cells") = some (.lst (cs.map .int)) := lk_cells (a := a) (l := l) (u := u)
theorem ixM_at {cs : List Int} {a l u : Int} : ixM (.dic (drawKvs cs a l u)) (.str "at") = some (.int a) := lk_at (cs := cs) (l := l) (u := u)
theorem ixM_left {cs : List Int} {a l u : Int} : ixM (.dic (drawKvs cs a l u)) (.str "left") = some (.int l) := lk_left (cs := cs) (a := a) (u := u)
theorem ixM_used {cs : List Int} {a l u : Int} : ixM (.dic (drawKvs cs a l u)) (.str "used") = some (.int u) := lk_used (cs := cs) (a := a) (l := l)
theorem setM_at {cs : List Int} {a l u v : Int} : setM (.dic (drawKvs cs a l u)) (.str "at") (.int v) = some (.dic (drawKvs cs v l u)) := by
  show (if (drawKvs cs a l u).length < sizeLine then some (MB.dic (putD (drawKvs cs a l u) (.inr "at") (.int v))) else none) = _
  rw [if_pos draw_len, put_at]
theorem setM_left {cs : List Int} {a l u v : Int} : setM (.dic (drawKvs cs a l u)) (.str "left") (.int v) = some (.dic (drawKvs cs a v u)) := by
  show (if (drawKvs cs a l u).length < sizeLine then some (MB.dic (putD (drawKvs cs a l u) (.inr "left") (.int v))) else none) = _
  rw [if_pos draw_len, put_left]
theorem setM_used {cs : List Int} {a l u v : Int} : setM (.dic (drawKvs cs a l u)) (.str "used") (.int v) = some (.dic (drawKvs cs a l v)) := by
  show (if (drawKvs cs a l u).length < sizeLine then some (MB.dic (putD (drawKvs cs a l u) (.inr "used") (.int v))) else none) = _
  rw [if_pos draw_len, put_used]
end DL
set_option Elab.async false
set_option linter.all false
set_option maxRecDepth 100000
namespace DL
open PySem L2 PyProof.Rows
/-! ### loops over data by a function of the elements; isinstance of built-in types -/
def IFM (xs : List D) (f : D → Option D) (M : Mem) (i : Nat) (acc : List D) (M' : Mem) : Prop := acc = (xs.take i).filterMap f ∧ M' = M
theorem ifm_0 {xs : List D} {f : D → Option D} {M : Mem} : IFM xs f M 0 [] M := ⟨rfl, rfl⟩
theorem take_succ' {α : Type} {xs : List α} {i : Nat} {x : α} (h : xs[i]? = some x) : xs.take (i + 1) = xs.take i ++ [x] := by
  rw [List.take_add_one, h]
  rfl
theorem ifm_some {xs : List D} {f : D → Option D} {M : Mem} {i : Nat} {x y : D} (h : xs[i]? = some x) (e : f x = some y) : IFM xs f M (i + 1) ((xs.take i).filterMap f ++ [y]) M := by
  refine ⟨?_, rfl⟩
  rw [take_succ' h, List.filterMap_append]
  simp [e]
theorem ifm_none {xs : List D} {f : D → Option D} {M : Mem} {i : Nat} {x : D} (h : xs[i]? = some x) (e : f x = none) : IFM xs f M (i + 1) ((xs.take i).filterMap f) M := by
  refine ⟨?_, rfl⟩
  rw [take_succ' h, List.filterMap_append]
  simp [e]
theorem ifm_end {xs : List D} {f : D → Option D} {M M' : Mem} {acc : List D} (h : IFM xs f M xs.length acc M') : acc = xs.filterMap f ∧ M' = M := by
  obtain ⟨h1, h2⟩ := h
  rw [List.take_length] at h1
  exact ⟨h1, h2⟩
theorem mem_of_get {α : Type} {xs : List α} {i : Nat} {x : α} (h : xs[i]? = some x) : x ∈ xs := List.mem_of_getElem? h
theorem isi_str {t : D} {n : String} (h : tyS t = some n) : kitB n "str" = some (isStr t) := by
  cases t <;> first | (cases h; done) | (cases h; simp only [isStr]; decide +kernel)
theorem isi_ty {K : Frag} {t : D} {n T : String} {b : Bool} (h : tyS t = some n) (e : kitB n T = some b) {M : Mem} {Q : WK} (q : Q (.bl b) M) : wIsi K [t, .ty T] M Q :=
  ⟨t, .ty T, .type n, .type T, b, rfl, (by cases t <;> first | (cases h; done) | exact ⟨_, h, rfl⟩), rfl, kit_ty e, q⟩
theorem inStr_one {c : Nat} {j : Str} : inStr ⟨#[c]⟩ j = decide (c ∈ j.cps.toList) := rfl
theorem sgn_len {z : Str} : (sgnD z).length = z.length := by
  unfold sgnD
  rw [List.length_map]
  rfl
theorem sgn_mem {z : Str} {x : D} (h : x ∈ sgnD z) : ∃ c, c ∈ z.cps.toList ∧ x = .str ⟨#[c]⟩ := by
  obtain ⟨c, h1, h2⟩ := List.mem_map.mp h
  exact ⟨c, h1, h2.symm⟩
/-! lists of texts, as data -/
theorem toPyL_map {α : Type} {f : α → D} {g : α → PyData} (h : ∀ a, toPy (f a) = some (g a)) : ∀ l : List α, toPyL (l.map f) = some (l.map g)
  | [] => rfl
  | a :: r => by
    show (match toPy (f a), toPyL (r.map f) with
      | some x, some xs => some (x :: xs)
      | _, _ => none) = _
    rw [h a, toPyL_map h r]
    rfl
theorem lay_map {α : Type} {g : α → PyData} : ∀ {l : List α}, (∀ a ∈ l, (g a).canLay0 = true) → PyData.canLayAll0 (l.map g) = true
  | [], _ => by simp [PyData.canLayAll0]
  | a :: r, h => by
    rw [List.map_cons, PyData.canLayAll0, h a (by simp), lay_map fun b hb => h b (by simp [hb])]
    rfl
theorem depth_map {α : Type} {g : α → PyData} {n : Nat} : ∀ {l : List α}, (∀ a ∈ l, (g a).depth ≤ n) → PyData.depthAll (l.map g) ≤ n
  | [], _ => by simp [PyData.depthAll]
  | a :: r, h => by
    have h1 := h a (by simp)
    have h2 := depth_map (n := n) (l := r) fun b hb => h b (by simp [hb])
    simp only [List.map_cons, PyData.depthAll]
    omega
theorem shaped_of {d : PyData} (h1 : d.canLay0 = true) (h2 : d.depth ≤ 64) : SeqAt.shaped d = true := by
  show (d.canLay0 && decide (d.depth ≤ 64)) = true
  rw [h1, decide_eq_true h2]
  rfl
theorem shaped_list {α : Type} {g : α → PyData} {n : Nat} {l : List α} (h1 : ∀ a ∈ l, (g a).canLay0 = true) (h2 : ∀ a ∈ l, (g a).depth ≤ n) (hn : n ≤ 60) : SeqAt.shaped (.list (l.map g)) = true := by
  refine shaped_of ?_ ?_
  · simp only [PyData.canLay0]
    exact lay_map h1
  · have := depth_map h2
    simp only [PyData.depth]
    omega
theorem shaped_nil : SeqAt.shaped (.list []) = true := by decide +kernel
theorem strOk_mem {z : Str} (h : PyData.strOk z = true) {c : Nat} (hc : c ∈ z.cps.toList) : c < 0x110000 := by
  have h1 : z.cps.all (· < 0x110000) = true := h
  rw [← Array.all_toList] at h1
  have := List.all_eq_true.mp h1 c hc
  simpa using this
theorem strOk_of {z : Str} (h : ∀ c ∈ z.cps.toList, c < 0x110000) : PyData.strOk z = true := by
  show z.cps.all (· < 0x110000) = true
  rw [← Array.all_toList]
  exact List.all_eq_true.mpr fun c hc => by simpa using h c hc
/-- == of a list of texts and the empty list -/
theorem eqW_strs_nil {l : List Str} {M : Mem} {Q : WK} {neg : Bool} (h : ∀ a ∈ l, PyData.strOk a = true) (q : Q (.bl (if neg then !l.isEmpty else l.isEmpty)) M) : eqW neg (.lst (l.map D.str)) (.lst []) M Q := by
  unfold eqW
  simp only [scalD]
  refine ⟨.list (l.map PyData.str), .list [], ?_, rfl, shaped_list (n := 0) (fun a ha => by simpa [PyData.canLay0] using h a ha) (fun a _ => by simp [PyData.depth]) (by decide), shaped_nil, ?_⟩
  · show (toPyL (l.map D.str)).map PyData.list = _
    rw [toPyL_map (g := PyData.str) (fun a => rfl)]
    rfl
  · have e : PyData.eqv (.list (l.map PyData.str)) (.list []) = l.isEmpty := by
      cases l <;> simp [PyData.eqv, PyData.eqvAll]
    rw [e]
    exact q
/-! texts: what is in them, how long they are -/
theorem cps_append (x y : Str) : (x ++ y).cps.toList = x.cps.toList ++ y.cps.toList := TL.tl_append x y
theorem strOk_append {x y : Str} (h1 : PyData.strOk x = true) (h2 : PyData.strOk y = true) : PyData.strOk (x ++ y) = true := by
  refine strOk_of fun c hc => ?_
  rw [cps_append] at hc
  rcases List.mem_append.mp hc with h | h
  · exact strOk_mem h1 h
  · exact strOk_mem h2 h
theorem strOk_cut {x : Str} {lo hi : Option Int} (h1 : PyData.strOk x = true) : PyData.strOk (cutS x lo hi) = true := by
  refine strOk_of fun c hc => ?_
  have h : c ∈ ((x.cps.toList.drop (HT.sIx x.length 0 lo)).take (HT.sIx x.length x.length hi - HT.sIx x.length 0 lo)) := hc
  exact strOk_mem h1 (List.mem_of_mem_drop (List.mem_of_mem_take h))
theorem len_eq (x : Str) : x.length = x.cps.toList.length := rfl
theorem cut_len {x : Str} {lo hi : Option Int} : (cutS x lo hi).length ≤ x.length := by
  show (((x.cps.toList.drop (HT.sIx x.length 0 lo)).take (HT.sIx x.length x.length hi - HT.sIx x.length 0 lo))).length ≤ x.cps.toList.length
  rw [List.length_take, List.length_drop]
  omega
theorem strOk_join {y : Str} (hy : PyData.strOk y = true) : ∀ {ys : List Str}, (∀ a ∈ ys, PyData.strOk a = true) → PyData.strOk (Txt.join y ys) = true := by
  intro ys h
  rw [TL.join_eq]
  induction ys with
  | nil => exact strOk_of fun c hc => absurd (show c ∈ ([] : List Nat) from hc) (by simp)
  | cons x r ih =>
    cases r with
    | nil => exact h x (by simp)
    | cons z r => exact strOk_append (strOk_append (h x (by simp)) hy) (ih fun a ha => h a (by simp [ha]))
theorem join_len {y : Str} {ys : List Str} : (Txt.join y ys).length ≤ (ys.map (·.length)).sum + ys.length * y.length := by
  rw [TL.join_eq]
  exact StrLaws.join_length_le y ys
theorem sum_len_one {ys : List Str} (h : ∀ a ∈ ys, a.length = 1) : (ys.map (·.length)).sum = ys.length := by
  induction ys with
  | nil => rfl
  | cons x r ih =>
    rw [List.map_cons, List.sum_cons, h x (by simp), ih fun a ha => h a (by simp [ha]), List.length_cons]
    omega
end DL
namespace DL
open PySem L2 PyProof.Rows
theorem funD_uniq {K : Frag} {x q x' q' : Str} {p p' : Arguments} {b b' : List Stmt} {s s' : Scope} {d d' : List V} {k k' : List (Str × V)} {f : Addr} {fd fd' : FuncData} (F : FunD K x q p b s d k f fd) (F' : FunD K x' q' p' b' s' d' k' f fd') : fd = fd' := by
  obtain ⟨_, _, _, _, _, _, _, _, _, _, _, h, _⟩ := F.ex
  obtain ⟨_, _, _, _, _, _, _, _, _, _, _, h', _⟩ := F'.ex
  rw [h] at h'
  cases h'
  rfl
end DL
set_option Elab.async false
set_option linter.all false
set_option maxRecDepth 100000
set_option synthInstance.maxSize 100000
set_option synthInstance.maxHeartbeats 4000000
set_option maxHeartbeats 4000000
namespace PK
open PySem L2 DL PyProof.Rows
/-! the text of the row, by places -/
def top (i : Nat) : Stmt := PySem.Challenge.pw_parcelindex_k02_names_words_and_paths.main.body.getD i (.Pass ⟨0, 0, 0, 0⟩)
abbrev s__law_begin : Stmt := top 11
theorem sc__law_begin : FnScope ["_law_script"] ["_law_script"] (defScope s__law_begin) := ⟨rfl, rfl, rfl, by decide +kernel, rfl, by decide +kernel, by decide +kernel⟩
abbrev s__law_mixed : Stmt := top 12
theorem sc__law_mixed : FnScope ["_law_cell", "_law_k", "_law_mixed_here"] ["_law_cell", "_law_k"] (defScope s__law_mixed) := ⟨rfl, rfl, rfl, by decide +kernel, rfl, by decide +kernel, by decide +kernel⟩
abbrev s__law_next : Stmt := top 13
theorem sc__law_next : FnScope ["_law_draw", "_law_bound", "_law_every", "_law_cell", "_law_found"] ["_law_draw", "_law_bound"] (defScope s__law_next) := ⟨rfl, rfl, rfl, by decide +kernel, rfl, by decide +kernel, by decide +kernel⟩
abbrev s__law_consists : Stmt := top 15
theorem sc__law_consists : FnScope ["_law_what", "_law_signs", "_law_most", "_law_sign"] ["_law_what", "_law_signs", "_law_most"] (defScope s__law_consists) := ⟨rfl, rfl, rfl, by decide +kernel, rfl, by decide +kernel, by decide +kernel⟩
abbrev s_consists_of : Stmt := top 6
theorem sc_consists_of : FnScope ["thing", "signs", "most", "sign"] ["thing", "signs", "most"] (defScope s_consists_of) := ⟨rfl, rfl, rfl, by decide +kernel, rfl, by decide +kernel, by decide +kernel⟩
abbrev s_is_name : Stmt := top 8
theorem sc_is_name : FnScope ["thing"] ["thing"] (defScope s_is_name) := ⟨rfl, rfl, rfl, by decide +kernel, rfl, by decide +kernel, by decide +kernel⟩
abbrev s_is_path : Stmt := top 9
theorem sc_is_path : FnScope ["thing"] ["thing"] (defScope s_is_path) := ⟨rfl, rfl, rfl, by decide +kernel, rfl, by decide +kernel, by decide +kernel⟩
abbrev s_is_word : Stmt := top 7
theorem sc_is_word : FnScope ["thing"] ["thing"] (defScope s_is_word) := ⟨rfl, rfl, rfl, by decide +kernel, rfl, by decide +kernel, by decide +kernel⟩
abbrev s__law_right : Stmt := top 16
theorem sc__law_right : FnScope ["_law_what", "_law_small", "_law_due", "_law_told", "_law_named"] ["_law_what"] (defScope s__law_right) := ⟨rfl, rfl, rfl, by decide +kernel, rfl, by decide +kernel, by decide +kernel⟩
abbrev s__law_string : Stmt := top 14
theorem sc__law_string : FnScope ["_law_draw", "_law_kinds", "_law_signs", "_law_size", "_law_found", "_law_at", "_law_odd", "_law_k"] ["_law_draw"] (defScope s__law_string) := ⟨rfl, rfl, rfl, by decide +kernel, rfl, by decide +kernel, by decide +kernel⟩
abbrev s_law : Stmt := top 17
theorem sc_law : FnScope ["_law_script", "_law_draw", "_law_turn", "_law_what", "_law_odd"] ["_law_script"] (defScope s_law) := ⟨rfl, rfl, rfl, by decide +kernel, rfl, by decide +kernel, by decide +kernel⟩
def consB (t : D) (g : Str) (most : Int) : Bool := match t with
  | .str z => decide (1 ≤ (z.length : Int)) && decide ((z.length : Int) ≤ most) && z.cps.toList.all fun c => decide (c ∈ g.cps.toList)
  | _ => false
def Good (t : D) : Prop := (∃ n, tyS t = some n) ∧ ∀ z, t = .str z → z.length ≤ 1000 ∧ PyData.strOk z = true
def lettersS : Str := "abcdefghijklmnopqrstuvwxyz"
def pathS : Str := "abcdefghijklmnopqrstuvwxyz0123456789.-/"
def lettersN : Str := "abcdefghijklmnopqrstuvwxyz"
def nameS : Str := "abcdefghijklmnopqrstuvwxyz0123456789-"
def firstB (t : D) : Bool := match t with
  | .str z => decide (z.cps.getD 0 0 ∈ lettersN.cps.toList)
  | _ => false
theorem all_of_filterMap {α : Type} (l : List α) (f : α → D) (p : α → Bool) (q : D → Option D) (h : ∀ a ∈ l, q (f a) = some (.bl (p a))) : (l.map f).filterMap q = (l.map p).map D.bl := by
  induction l with
  | nil => rfl
  | cons a r ih =>
    simp only [List.map_cons, List.filterMap_cons]
    rw [h a (by simp)]
    exact congrArg (_ :: ·) (ih fun b hb => h b (by simp [hb]))
theorem cons_first {z g : Str} {m : Int} (h : consB (.str z) g m = true) : ∃ c, atI z.cps.toList 0 = some c ∧ z.cps.getD 0 0 = c := by
  unfold consB at h
  simp only [Bool.and_eq_true, decide_eq_true_eq] at h
  have h1 := h.1.1
  obtain ⟨⟨l⟩⟩ := z
  match l, h1 with
  | c :: r, _ =>
    refine ⟨c, ?_, rfl⟩
    unfold atI ixN
    rw [if_pos (by decide), if_pos (by simp)]
    rfl
theorem filter_str (l : List Nat) (p : Nat → Bool) (q : D → Option D) (h1 : ∀ c ∈ l, q (.str ⟨#[c]⟩) = if p c = true then some (.str ⟨#[c]⟩) else none) : (l.map fun c => D.str ⟨#[c]⟩).filterMap q = ((l.filter p).map fun c => (⟨#[c]⟩ : Str)).map D.str := by
  induction l with
  | nil => rfl
  | cons a r ih =>
    have ih := ih fun c hc => h1 c (by simp [hc])
    simp only [List.map_cons, List.filterMap_cons, List.filter_cons]
    rw [h1 a (by simp)]
    by_cases e : p a = true
    · simp only [e, if_true, List.map_cons]
      rw [ih]
    · simp only [e, if_false, Bool.false_eq_true]
      rw [ih]
local macro_rules | `(tactic| walk_at "ws") => `(tactic| simp only [wSeq, wAsg, wName, wOp, wUn, wVar, wC, wAdd, wII, wII0, wNeg, wCmp, eqW, scalD, wIsNo, isNon, wIn, inD, wIx, ixD, wSet, wGSub, wNil, wCons, wTup, wLst, wLstC, wTest, wAnd, wOr, wNot, wIf, wAndV, wOrV, wNotV, wNext, wBreak, wCont, wDrop, wRet, wRetN, wIfS, wGNil, wGCons, wGTup, wPar, wChain, wTruth, wPairs, wDispC, wDisp, keysOf, keyOf, wCB, wLen, lenM, wMin2, wMax2, wStr, wInt, wList, wTuple, wCall, wCallN, wBMs, isStr, wSl, wNoPart, wPart, wSlX, wSeqI, wRng1, wRng2, wYes, startD, wipeD, ixM_cells, ixM_at, ixM_left, ixM_used, setM_at, setM_left, setM_used, mset_same, mset_mset, List.map_cons, List.map_nil, List.length_cons, List.length_nil, List.replicate, List.cons_append, List.nil_append, List.append_nil, List.getElem?_cons_zero, List.getElem?_cons_succ, List.set_cons_zero, List.set_cons_succ, List.set_nil, Option.some.injEq, exists_eq_left', exists_eq_left, forall_eq, forall_eq', D.int.injEq, D.str.injEq, D.bl.injEq, D.ref.injEq, D.lst.injEq, D.tup.injEq, true_and, and_true, if_true, if_false, Bool.false_eq_true, reduceCtorEq, Nat.reduceSub, Nat.reduceAdd, Nat.sub_self, List.replicate_zero, List.cons.injEq, and_self])
local macro_rules | `(tactic| walk_at "wn") => `(tactic| (refine wHold.go ?_; simp only [wSeq, wAsg, wName, wOp, wUn, wVar, wC, wAdd, wII, wII0, wNeg, wCmp, eqW, scalD, wIsNo, isNon, wIn, inD, wIx, ixD, wSet, wGSub, wNil, wCons, wTup, wLst, wLstC, wTest, wAnd, wOr, wNot, wIf, wAndV, wOrV, wNotV, wNext, wBreak, wCont, wDrop, wRet, wRetN, wIfS, wGNil, wGCons, wGTup, wPar, wChain, wTruth, wPairs, wDispC, wDisp, keysOf, keyOf, wCB, wLen, lenM, wMin2, wMax2, wStr, wInt, wList, wTuple, wCall, wCallN, wBMs, isStr, wSl, wNoPart, wPart, wSlX, wSeqI, wRng1, wRng2, wYes, startD, wipeD, ixM_cells, ixM_at, ixM_left, ixM_used, setM_at, setM_left, setM_used, mset_same, mset_mset, List.map_cons, List.map_nil, List.length_cons, List.length_nil, List.replicate, List.cons_append, List.nil_append, List.append_nil, List.getElem?_cons_zero, List.getElem?_cons_succ, List.set_cons_zero, List.set_cons_succ, List.set_nil, Option.some.injEq, exists_eq_left', exists_eq_left, forall_eq, forall_eq', D.int.injEq, D.str.injEq, D.bl.injEq, D.ref.injEq, D.lst.injEq, D.tup.injEq, true_and, and_true, if_true, if_false, Bool.false_eq_true, reduceCtorEq, Nat.reduceSub, Nat.reduceAdd, Nat.sub_self, List.replicate_zero, List.cons.injEq, and_self]))
def S__law_begin : DSp := fun ds M Q _ => ∃ ns : List Int, ds = [.lst (ns.map .int)] ∧ ns.length ≤ 63 ∧ ∀ p, M p = none → Q (.ref p) (mset M p (Draw 0))
abbrev w__law_begin (Ξ : DL.WX) : WS :=
  (wRet (wDispC [((wC (.str "cells")), (wOp wAdd (wVar 0) (wLst (wCons (wC (.int 0)) wNil)))), ((wC (.str "at")), (wC (.int 0))), ((wC (.str "left")), (wC (.int 0))), ((wC (.str "used")), (wC (.int 0)))]))
theorem pure__law_begin : ∀ ds M Qd Ed, ds.length = 1 → S__law_begin ds M Qd Ed → w__law_begin (weakX Ed) { nx := fun _ M => weakK Qd .non M, rt := weakK Qd } (startD ["_law_script"] ds) M := by
  rintro ds M Qd Ed - ⟨ns, rfl, hl, k⟩
  walk_at "ws"
  refine ⟨small (by simp), small (by simp; omega), by decide, fun p hp => ⟨_, Wk.set Wk.refl ?_, k p hp⟩⟩
  rintro mb rfl
  refine ⟨ns ++ [0], 0, 0, 0, ?_, by simp, by simp; omega, by omega, by simp, by omega, by omega, by simp⟩
  have e : ns.map D.int ++ [D.int 0] = (ns ++ [0]).map D.int := by rw [List.map_append] <;> rfl
  rw [e]
  exact congrArg MB.dic merge_draw
theorem ok__law_begin {P : Program} {w : World} {K : Frag} {mg : Str → Option Value} {base : Heap} (D : Def1 K mg "_law_begin" s__law_begin)   : Fn1 P w K mg base 1 "_law_begin" s__law_begin ["_law_script"] 1 S__law_begin :=
  fn1 D sc__law_begin rfl (fun _ _ _ _ _ _ us hl => match us, hl with | [_], _ => rfl) (W := fun Ξ => w__law_begin Ξ) (fun f cdv A outer s H E hr => ⟨_, (pss_one (ps_ret (pe_dispC (pe_disp (pps_cons pe_str (pe_op (k_add (K := K)) (pv 0) (pe_lst (pa_cons pe_int pa_nil))) (pps_cons pe_str pe_int (pps_cons pe_str pe_int (pps_cons pe_str pe_int pps_nil)))) (by rfl) (by rfl) (fun z => by cases z) (by decide))))),
  fun Ξ => inferInstance⟩) pure__law_begin
def S__law_mixed : DSp := fun ds M Q _ => ∃ c k : Int, ds = [.int c, .int k] ∧ 0 ≤ k ∧ k < 2 ^ 62 ∧ ∀ r : Int, 0 ≤ r → Q (.int r) M
abbrev w__law_mixed (Ξ : DL.WX) : WS :=
  (wSeq (wAsg (wOp (wII (fun _ j => 0 < j) fun i j => .int (i % j)) (wOp wAdd (wOp wAdd (wOp wAdd (wOp (wII (fun _ j => 0 < j) fun i j => .int (i % j)) (wVar 0) (wC (.int 1000000007))) (wOp (wII CMulW fun i j => .int (i * j)) (wOp (wII CMulW fun i j => .int (i * j)) (wC (.int 7919)) (wVar 1)) (wVar 1))) (wOp (wII CMulW fun i j => .int (i * j)) (wC (.int 31)) (wVar 1))) (wC (.int 7))) (wC (.int 2147483647))) (wName 2))
  (wSeq (wAsg (wOp (wII (fun _ j => 0 < j) fun i j => .int (i % j)) (wOp (wII CMulW fun i j => .int (i * j)) (wOp (wII (fun _ j => 0 < j) fun i j => .int (i % j)) (wOp (wII CMulW fun i j => .int (i * j)) (wVar 2) (wVar 2)) (wC (.int 2147483647))) (wVar 2)) (wC (.int 2147483629))) (wName 2))
  (wRet (wOp (wII CDivW fun i j => .int (i / j)) (wOp (wII (fun _ j => 0 < j) fun i j => .int (i % j)) (wOp (wII CMulW fun i j => .int (i * j)) (wVar 2) (wOp wAdd (wC (.int 69621)) (wOp (wII CMulW fun i j => .int (i * j)) (wC (.int 2)) (wOp (wII (fun _ j => 0 < j) fun i j => .int (i % j)) (wVar 1) (wC (.int 1000)))))) (wC (.int 2147483647))) (wC (.int 7))))))
theorem natAbs_mul_lt {i j : Int} {a b : Nat} (hi : i.natAbs < a) (hj : j.natAbs < b) : (i * j).natAbs < a * b := by
  rw [Int.natAbs_mul]
  exact Nat.mul_lt_mul_of_lt_of_le hi (Nat.le_of_lt hj) (Nat.lt_of_le_of_lt (Nat.zero_le _) hj)
theorem pure__law_mixed : ∀ ds M Qd Ed, ds.length = 2 → S__law_mixed ds M Qd Ed → w__law_mixed (weakX Ed) { nx := fun _ M => weakK Qd .non M, rt := weakK Qd } (startD ["_law_cell", "_law_k", "_law_mixed_here"] ds) M := by
  rintro ds M Qd Ed - ⟨c, k, rfl, k0, k1, q⟩
  walk_at "ws"
  have hk : k.natAbs < 2 ^ 62 := by omega
  have b1 : (7919 * k).natAbs < 2 ^ 400 := Nat.lt_of_lt_of_le (natAbs_mul_lt (a := 7920) (by decide) hk) (by decide)
  refine ⟨by decide, cmulW (by decide) (Nat.lt_of_lt_of_le hk (by decide)), cmulW b1 (Nat.lt_of_lt_of_le hk (by decide)), cmulW (by decide) (Nat.lt_of_lt_of_le hk (by decide)), by decide, ?_⟩
  generalize eh : (c % 1000000007 + 7919 * k * k + 31 * k + 7) % 2147483647 = h
  have h0 : 0 ≤ h := by rw [← eh]; exact Int.emod_nonneg _ (by decide)
  have h1 : h < 2147483647 := by rw [← eh]; exact Int.emod_lt_of_pos _ (by decide)
  walk_at "wn"
  generalize eg : h * h % 2147483647 = g
  have g0 : 0 ≤ g := by rw [← eg]; exact Int.emod_nonneg _ (by decide)
  have g1 : g < 2147483647 := by rw [← eg]; exact Int.emod_lt_of_pos _ (by decide)
  refine ⟨cmulW (by omega) (by omega), by decide, cmulW (by omega) (by omega), by decide, ?_⟩
  generalize ef : g * h % 2147483629 = f
  have f0 : 0 ≤ f := by rw [← ef]; exact Int.emod_nonneg _ (by decide)
  have f1 : f < 2147483629 := by rw [← ef]; exact Int.emod_lt_of_pos _ (by decide)
  have m0 : 0 ≤ k % 1000 := Int.emod_nonneg _ (by decide)
  have m1 : k % 1000 < 1000 := Int.emod_lt_of_pos _ (by decide)
  walk_at "wn"
  refine ⟨by decide, cmulW (by decide) (by omega), cmulW (by omega) (by omega), by decide, cdivW (by decide) (by decide), weakK_of (q _ ?_)⟩
  exact Int.ediv_nonneg (Int.emod_nonneg _ (by decide)) (by decide)
theorem ok__law_mixed {P : Program} {w : World} {K : Frag} {mg : Str → Option Value} {base : Heap} (D : Def1 K mg "_law_mixed" s__law_mixed)   : Fn1 P w K mg base 1 "_law_mixed" s__law_mixed ["_law_cell", "_law_k"] 2 S__law_mixed :=
  fn1 D sc__law_mixed rfl (fun _ _ _ _ _ _ us hl => match us, hl with | [_, _], _ => rfl) (W := fun Ξ => w__law_mixed Ξ) (fun f cdv A outer s H E hr => ⟨_, (pss_cons (ps_set (i := 2) sc__law_mixed.nd rfl (Or.inl rfl) (pe_op k_mod (pe_op (k_add (K := K)) (pe_op (k_add (K := K)) (pe_op (k_add (K := K)) (pe_op k_mod (pv 0) pe_int) (pe_op k_mul (pe_op k_mul pe_int (pv 1)) (pv 1))) (pe_op k_mul pe_int (pv 1))) pe_int) pe_int))
  (pss_cons (ps_set (i := 2) sc__law_mixed.nd rfl (Or.inl rfl) (pe_op k_mod (pe_op k_mul (pe_op k_mod (pe_op k_mul (pv 2) (pv 2)) pe_int) (pv 2)) pe_int))
  (pss_one (ps_ret (pe_op k_div (pe_op k_mod (pe_op k_mul (pv 2) (pe_op (k_add (K := K)) pe_int (pe_op k_mul pe_int (pe_op k_mod (pv 1) pe_int)))) pe_int) pe_int))))),
  fun Ξ => inferInstance⟩) pure__law_mixed
def S__law_next : DSp := fun ds M Q _ => ∃ (p : Addr) (b : Int) (n : Nat), ds = [.ref p, .int b] ∧ M p = some (Draw n) ∧ 0 < b ∧ b < 2 ^ 64 ∧ n < 2 ^ 60 ∧ ∀ r : Int, 0 ≤ r → r < b → Q (.int r) (mset M p (Draw (n + 1)))
abbrev w__law_next (Ξ : DL.WX) : WS :=
  (wSeq (wIfS (wTest (wOp (wCmp (fun i j => decide (j < i)) fun i j => ltS j i) (wOp wIx (wVar 0) (wC (.str "left"))) (wC (.int 0))))
  (wSeq (wAsg (wOp (wII (fun _ j => 0 < j) fun i j => .int (i % j)) (wOp wIx (wVar 0) (wC (.str "left"))) (wVar 1)) (wName 4))
  (wSeq (wAsg (wOp (wII CDivW fun i j => .int (i / j)) (wOp wIx (wVar 0) (wC (.str "left"))) (wVar 1)) (wGSub (wVar 0) (wC (.str "left")) wSet))
  (wRet (wVar 4)))) wNext)
  (wSeq (wAsg (wOp wIx (wVar 0) (wC (.str "cells"))) (wName 2))
  (wSeq (wAsg (wOp wIx (wVar 2) (wOp (wII (fun _ j => 0 < j) fun i j => .int (i % j)) (wOp wIx (wVar 0) (wC (.str "at"))) (wCB wLen (wCons (wVar 2) wNil)))) (wName 3))
  (wSeq (wAsg (wOp wAdd (wOp wIx (wVar 0) (wC (.str "at"))) (wC (.int 1))) (wGSub (wVar 0) (wC (.str "at")) wSet))
  (wSeq (wIfS (wAnd (wTest (wOp (wCmp (fun i j => decide (j ≤ i)) fun i j => !ltS i j) (wVar 3) (wOp (wII CPow fun i j => .int (i ^ j.toNat)) (wC (.int 10)) (wC (.int 18))))) (wTest (wOp (wCmp (fun i j => decide (i ≤ j)) fun i j => !ltS j i) (wOp wIx (wVar 0) (wC (.str "at"))) (wCB wLen (wCons (wVar 2) wNil)))))
  (wSeq (wAsg (wOp (wII CDivW fun i j => .int (i / j)) (wVar 3) (wVar 1)) (wGSub (wVar 0) (wC (.str "left")) wSet))
  (wRet (wOp (wII (fun _ j => 0 < j) fun i j => .int (i % j)) (wVar 3) (wVar 1)))) wNext)
  (wSeq (wAsg (wOp wAdd (wOp wIx (wVar 0) (wC (.str "used"))) (wC (.int 1))) (wGSub (wVar 0) (wC (.str "used")) wSet))
  (wRet (wOp (wII (fun _ j => 0 < j) fun i j => .int (i % j)) (wCall 2 S__law_mixed [] noX (wCons (wCall 2 S__law_mixed [] noX (wCons (wVar 3) (wCons (wOp wIx (wVar 0) (wC (.str "at"))) wNil))) (wCons (wOp wIx (wVar 0) (wC (.str "used"))) wNil))) (wVar 1)))))))))
theorem draw_end {M : Mem} {p : Addr} {Q : WK} {n : Nat} {cs : List Int} {a l u r : Int} (h : Q (.int r) (mset M p (Draw n))) (c0 : cs ≠ []) (c1 : cs.length ≤ 64) (a0 : 0 ≤ a) (a1 : a ≤ n) (l0 : 0 ≤ l) (u0 : 0 ≤ u) (u1 : u ≤ n) :
    weakK Q (.int r) (mset M p (· = .dic (drawKvs cs a l u))) := ⟨_, Wk.set Wk.refl fun _ e => ⟨cs, a, l, u, e, c0, c1, a0, a1, l0, u0, u1⟩, h⟩
theorem pure__law_next : ∀ ds M Qd Ed, ds.length = 2 → S__law_next ds M Qd Ed → w__law_next (weakX Ed) { nx := fun _ M => weakK Qd .non M, rt := weakK Qd } (startD ["_law_draw", "_law_bound", "_law_every", "_law_cell", "_law_found"] ds) M := by
  rintro ds M Qd Ed - ⟨p, b, n, rfl, hp, b0, b1, hn, q⟩
  walk_at "ws"
  refine ⟨_, hp, ?_⟩
  rintro mb ⟨cs, a, l, u, rfl, c0, c1, a0, a1, l0, u0, u1⟩
  walk_at "ws"
  have mod (x : Int) : 0 ≤ x % b ∧ x % b < b := ⟨Int.emod_nonneg _ (by omega), Int.emod_lt_of_pos _ b0⟩
  have dv : CDivW l b := cdivW b0 (by omega)
  refine ite2 (fun h => ?_) (fun h => ?_)
  · refine ⟨b0, ?_⟩
    walk_at "wn"
    refine ⟨cdivW b0 (by omega), ?_⟩
    walk_at "wn"
    exact draw_end (q _ (mod l).1 (mod l).2) c0 c1 a0 (by omega) (Int.ediv_nonneg l0 (by omega)) u0 (by omega)
  · walk_at "wn"
    walk_at "wn"
    have cl : 0 < ((cs.map D.int).length : Int) := by
      rw [List.length_map]
      have := List.length_pos_iff.mpr c0
      omega
    obtain ⟨x, e, hx⟩ := atI_some (l := cs.map D.int) (i := a % ((cs.map D.int).length : Int)) (Int.emod_nonneg _ (by omega)) (Int.emod_lt_of_pos _ cl)
    obtain ⟨c, _, rfl⟩ := List.mem_map.mp hx
    refine ⟨cl, _, e, ?_⟩
    walk_at "wn"
    walk_at "wn"
    have tail : ∀ {D : WEnds} {δ : DE}, D.rt = weakK Qd → wHold (wSeq (wAsg (wOp wAdd (wOp wIx (wVar 0) (wC (.str "used"))) (wC (.int 1))) (wGSub (wVar 0) (wC (.str "used")) wSet))
        (wRet (wOp (wII (fun _ j => 0 < j) fun i j => .int (i % j)) (wCall 2 S__law_mixed [] noX (wCons (wCall 2 S__law_mixed [] noX (wCons (wVar 3) (wCons (wOp wIx (wVar 0) (wC (.str "at"))) wNil))) (wCons (wOp wIx (wVar 0) (wC (.str "used"))) wNil))) (wVar 1)))) D
        [some (.ref p), some (.int b), some (.lst (cs.map .int)), some (.int c), none] (mset M p (· = .dic (drawKvs cs (a + 1) l u))) := by
      intro D δ hD
      walk_at "wn"
      walk_at "wn"
      rw [hD]
      refine ⟨_, _, rfl, by omega, by omega, fun r r0 => ?_⟩
      walk_at "ws"
      refine ⟨_, _, rfl, by omega, by omega, fun r2 r3 => ?_⟩
      refine ⟨b0, draw_end (q _ (mod _).1 (mod _).2) c0 c1 (by omega) (by omega) l0 (by omega) (by omega)⟩
    refine ⟨⟨by decide, by decide, by decide⟩, ite2 (fun h1 => ite2 (fun h2 => ⟨cdivW b0 (by omega), ?_⟩) fun h2 => tail (δ := []) rfl) fun h1 => tail (δ := []) rfl⟩
    walk_at "wn"
    have c3 : 0 ≤ c := by
      have h1 : decide ((10 : Int) ^ (18 : Int).toNat ≤ c) = true := h1
      have h3 := of_decide_eq_true h1
      have : (0 : Int) ≤ 10 ^ (18 : Int).toNat := by decide
      omega
    exact ⟨b0, draw_end (q _ (mod c).1 (mod c).2) c0 c1 (by omega) (by omega) (Int.ediv_nonneg c3 (by omega)) u0 (by omega)⟩
theorem ok__law_next {P : Program} {w : World} {K : Frag} {mg : Str → Option Value} {base : Heap} (D : Def1 K mg "_law_next" s__law_next) (z_len : mg "len" = none) (H__law_mixed : Fn1 P w K mg base 1 "_law_mixed" s__law_mixed ["_law_cell", "_law_k"] 2 S__law_mixed)  : Fn1 P w K mg base 2 "_law_next" s__law_next ["_law_draw", "_law_bound"] 2 S__law_next :=
  fn1 D sc__law_next rfl (fun _ _ _ _ _ _ us hl => match us, hl with | [_, _], _ => rfl) (W := fun Ξ => w__law_next Ξ) (fun f cdv A outer s H E hr => ⟨_, (pss_cons (ps_if (pt_cmpR op_gtA (pe_ixK (K := K) hr (pv 0) pe_str) pe_int (nomark _))
  (pss_cons (ps_set (i := 4) sc__law_next.nd rfl (Or.inl rfl) (pe_op k_mod (pe_ixK (K := K) hr (pv 0) pe_str) (pv 1)))
  (pss_cons (ps_asg (pe_op k_div (pe_ixK (K := K) hr (pv 0) pe_str) (pv 1)) (pg_sub (pv 0) pe_str (set_all (hu_of hr))))
  (pss_one (ps_ret (pv 4))))) pss_nil)
  (pss_cons (ps_set (i := 2) sc__law_next.nd rfl (Or.inl rfl) (pe_ixK (K := K) hr (pv 0) pe_str))
  (pss_cons (ps_set (i := 3) sc__law_next.nd rfl (Or.inl rfl) (pe_ixK (K := K) hr (pv 2) (pe_op k_mod (pe_ixK (K := K) hr (pv 0) pe_str) (pe_callB (b_len (K := K)) (by rfl) z_len PySem.boot_len (pa_cons (pv 2) pa_nil)))))
  (pss_cons (ps_asg (pe_op (k_add (K := K)) (pe_ixK (K := K) hr (pv 0) pe_str) pe_int) (pg_sub (pv 0) pe_str (set_all (hu_of hr))))
  (pss_cons (ps_if (PW.pt (pw_and (pt_cmpR op_geA (pv 3) (pe_op k_pow pe_int pe_int) (nomark _)) (pw_and1 (pt_cmpR op_leA (pe_ixK (K := K) hr (pv 0) pe_str) (pe_callB (b_len (K := K)) (by rfl) z_len PySem.boot_len (pa_cons (pv 2) pa_nil)) (nomark _)))))
  (pss_cons (ps_asg (pe_op k_div (pv 3) (pv 1)) (pg_sub (pv 0) pe_str (set_all (hu_of hr))))
  (pss_one (ps_ret (pe_op k_mod (pv 3) (pv 1))))) pss_nil)
  (pss_cons (ps_asg (pe_op (k_add (K := K)) (pe_ixK (K := K) hr (pv 0) pe_str) pe_int) (pg_sub (pv 0) pe_str (set_all (hu_of hr))))
  (pss_one (ps_ret (pe_op k_mod (pe_fnK (K := K) H__law_mixed hr (by decide) passL (pa_cons (pe_fnK (K := K) H__law_mixed hr (by decide) passL (pa_cons (pv 3) (pa_cons (pe_ixK (K := K) hr (pv 0) pe_str) pa_nil))) (pa_cons (pe_ixK (K := K) hr (pv 0) pe_str) pa_nil))) (pv 1)))))))))),
  fun Ξ => inferInstance⟩) pure__law_next
def S__law_consists : DSp := fun ds M Q _ => ∃ t g most, ds = [t, .str g, .int most] ∧ Good t ∧ Q (.bl (consB t g most)) M
abbrev w__law_consists (K : Frag) (Ξ : DL.WX) : WS :=
  (wSeq (wIfS (wOr (wNot (wTruth (wCB (wIsi K) (wCons (wVar 0) (wCons (wC (.ty "str")) wNil))))) (wOr (wTest (wOp (eqW false) (wVar 0) (wC (.str "")))) (wTest (wOp (wCmp (fun i j => decide (j < i)) fun i j => ltS j i) (wCB wLen (wCons (wVar 0) wNil)) (wVar 2)))))
  (wRet (wC (.bl false))) wNext)
  (wRet (wOp (eqW false) (wLc (wSeqI (wVar 0)) (wName 3) [3] (wTest (wOp (wIn true) (wVar 3) (wVar 1))) (wVar 3) [3]) (wLst wNil))))
theorem pure__law_consists {K : Frag} : ∀ ds M Qd Ed, ds.length = 3 → S__law_consists ds M Qd Ed → w__law_consists K (weakX Ed) { nx := fun _ M => weakK Qd .non M, rt := weakK Qd } (startD ["_law_what", "_law_signs", "_law_most", "_law_sign"] ds) M := by
  rintro ds M Qd Ed - ⟨t, g, most, rfl, ⟨⟨n, hn⟩, hz⟩, k⟩
  walk_at "ws"
  refine isi_ty hn (isi_str hn) ?_
  by_cases hs : isStr t = true
  · cases t with
    | str z =>
      obtain ⟨hz, hok⟩ := hz z rfl
      have hl : z.length ≤ sizeLine := small (by omega)
      walk_at "ws"
      refine ite2 (fun h => absurd h (by decide)) fun _ => ite2 (fun h => ?_) fun h => ⟨hl, ite2 (fun h2 => ?_) fun h2 => ?_⟩
      · have h := of_decide_eq_true h
        subst h
        exact weakK_of k
      · have h2 := of_decide_eq_true h2
        have : consB (.str z) g most = false := by
          unfold consB
          have : ¬ ((z.length : Int) ≤ most) := by omega
          simp only [this, decide_false, Bool.and_false, Bool.false_and]
        rw [this] at k
        exact weakK_of k
      · have h2 : ¬ (most < (z.length : Int)) := fun e => h2 (decide_eq_true e)
        have h : z ≠ "" := fun e => h (decide_eq_true e)
        have h0 : 1 ≤ (z.length : Int) := by
          obtain ⟨⟨l⟩⟩ := z
          match l, h with
          | [], h => exact absurd rfl h
          | c :: r, _ => simp [Str.length]; omega
        walk_at "wn"
        unfold wLc
        walk_at "ws"
        let f : D → Option D := fun x => match x with
          | .str i => if !inStr i g then some x else none
          | _ => none
        refine ⟨rfl, by rw [sgn_len]; exact hl, IFM (sgnD z) f M, ifm_0, ?_, ?_⟩
        · rintro i x acc _ hx - ⟨rfl, rfl⟩
          obtain ⟨c, hc, rfl⟩ := sgn_mem (mem_of_get hx)
          walk_at "ws"
          refine ite2 (fun e => ?_) (fun e => ?_)
          · exact ifm_some hx (if_pos e)
          · exact ifm_none hx (if_neg e)
        · rintro acc _ - h
          obtain ⟨rfl, rfl⟩ := ifm_end h
          have e := filter_str z.cps.toList (fun c => !decide (c ∈ g.cps.toList)) f fun c _ => rfl
          refine ⟨(by decide), ?_⟩
          have e2 : (sgnD z).filterMap f = _ := e
          rw [e2]
          refine eqW_strs_nil (neg := false) ?_ (weakK_of ?_)
          · intro a ha
            obtain ⟨c, hc, rfl⟩ := List.mem_map.mp ha
            refine strOk_of fun c' h' => ?_
            rw [List.mem_singleton.mp h']
            exact strOk_mem hok (List.mem_filter.mp hc).1
          · have : ((z.cps.toList.filter fun c => !decide (c ∈ g.cps.toList)).map fun c => (⟨#[c]⟩ : Str)).isEmpty = consB (.str z) g most := by
              unfold consB
              have h3 : (z.length : Int) ≤ most := by omega
              simp only [h0, h3, decide_true, Bool.true_and]
              generalize z.cps.toList = l
              rw [Bool.eq_iff_iff]
              simp
            simp only [Bool.false_eq_true, if_false]
            rw [this]
            exact k
    | _ => cases hs
  · have e : isStr t = false := by simpa using hs
    simp only [e, Bool.not_false, if_true]
    refine weakK_of ?_
    have : consB t g most = false := by
      cases t <;> first | rfl | (cases e; done)
    rw [this] at k
    exact k
theorem ok__law_consists {P : Program} {w : World} {K : Frag} {mg : Str → Option Value} {base : Heap} (D : Def1 K mg "_law_consists" s__law_consists) (z_len : mg "len" = none) (z_isinstance : mg "isinstance" = none) (z_str : mg "str" = none)  : Fn1 P w K mg base 1 "_law_consists" s__law_consists ["_law_what", "_law_signs", "_law_most"] 3 S__law_consists :=
  fn1 D sc__law_consists rfl (fun _ _ _ _ _ _ us hl => match us, hl with | [_, _, _], _ => rfl) (W := fun Ξ => w__law_consists K Ξ) (fun f cdv A outer s H E hr => ⟨_, (pss_cons (ps_if (PW.pt (pw_or (pt_not (pt_trK (K := K) (pe_callB (b_isinstance (K := K)) (by rfl) z_isinstance (by decide +kernel) (pa_cons (pv 0) (pa_cons (pe_ty z_str (by decide +kernel)) pa_nil))))) (pw_or (pt_cmpR (k_eq (K := K) hr) (pv 0) pe_str (nomark _)) (pw_or1 (pt_cmpR op_gtA (pe_callB (b_len (K := K)) (by rfl) z_len PySem.boot_len (pa_cons (pv 0) pa_nil)) (pv 2) (nomark _))))))
  (pss_one (ps_ret pe_bl)) pss_nil)
  (pss_one (ps_ret (pe_cmpR (k_eq (K := K) hr) (pe_lc (own := [("_law_sign", 3)]) (g := (gName 3)) (tt := _) rfl sc__law_consists.nd (pi_seqK (K := K) (pv 0)) (blkOk_by (N := ["_law_what", "_law_signs", "_law_most", "_law_sign"]) (sc := defScope s__law_consists) (by decide +kernel)) (fun _ _ _ _ _ => (pg_name (i := 3) sc__law_consists.nd rfl (by first | exact Or.inl rfl | exact Or.inr rfl))) (fun _ _ _ _ _ => (pts_one (pt_cmpR (k_notIn (K := K) hr) (pv 3) (pv 1) (by rfl)))) (fun _ _ _ _ _ => (pv 3))) (pe_lst pa_nil) (nomark _))))),
  fun Ξ => inferInstance⟩) pure__law_consists
def S_consists_of : DSp := fun ds M Q _ => ∃ t g most, ds = [t, .str g, .int most] ∧ Good t ∧ Q (.bl (consB t g most)) M
abbrev w_consists_of (K : Frag) (Ξ : DL.WX) : WS :=
  (wSeq (wIfS (wOr (wNot (wTruth (wCB (wIsi K) (wCons (wVar 0) (wCons (wC (.ty "str")) wNil))))) (wNot (wTest (wChain (wCmp (fun i j => decide (i ≤ j)) fun i j => !ltS j i) (wCmp (fun i j => decide (i ≤ j)) fun i j => !ltS j i) (wC (.int 1)) (wCB wLen (wCons (wVar 0) wNil)) (wVar 2)))))
  (wRet (wC (.bl false))) wNext)
  (wRet (wCB wAll (wCons (wLc (wSeqI (wVar 0)) (wName 3) [3] wYes (wOp (wIn false) (wVar 3) (wVar 1)) [3]) wNil))))
theorem pure_consists_of {K : Frag} : ∀ ds M Qd Ed, ds.length = 3 → S_consists_of ds M Qd Ed → w_consists_of K (weakX Ed) { nx := fun _ M => weakK Qd .non M, rt := weakK Qd } (startD ["thing", "signs", "most", "sign"] ds) M := by
  rintro ds M Qd Ed - ⟨t, g, most, rfl, ⟨⟨n, hn⟩, hz⟩, k⟩
  walk_at "ws"
  refine isi_ty hn (isi_str hn) ?_
  by_cases hs : isStr t = true
  · cases t with
    | str z =>
      obtain ⟨hz, hok⟩ := hz z rfl
      simp only [isStr, Bool.not_true, if_false, Bool.false_eq_true, D.bl.injEq, exists_eq_left']
      have hl : z.length ≤ sizeLine := small (by omega)
      by_cases h1 : 1 ≤ (z.length : Int)
      · simp only [h1, decide_true, if_true, exists_eq_left', D.bl.injEq]
        refine ⟨hl, ?_⟩
        by_cases h2 : (z.length : Int) ≤ most
        · simp only [h2, decide_true, Bool.not_true, Bool.false_eq_true, if_false, exists_eq_left', D.bl.injEq]
          walk_at "wn"
          unfold wLc
          walk_at "ws"
          let f : D → Option D := fun x => match x with
            | .str i => some (.bl (inStr i g))
            | _ => none
          refine ⟨rfl, by rw [sgn_len]; exact hl, IFM (sgnD z) f M, ifm_0, ?_, ?_⟩
          · rintro i x acc _ hx - ⟨rfl, rfl⟩
            obtain ⟨c, hc, rfl⟩ := sgn_mem (mem_of_get hx)
            walk_at "ws"
            exact ifm_some hx rfl
          · rintro acc _ - h
            obtain ⟨rfl, rfl⟩ := ifm_end h
            have e := all_of_filterMap z.cps.toList (fun c => D.str ⟨#[c]⟩) (fun c => decide (c ∈ g.cps.toList)) f fun c _ => rfl
            refine ⟨_, z.cps.toList.map fun c => decide (c ∈ g.cps.toList), rfl, Or.inl (congrArg D.lst e), ?_⟩
            · refine weakK_of ?_
              have : (z.cps.toList.map fun c => decide (c ∈ g.cps.toList)).all id = consB (.str z) g most := by
                unfold consB
                simp only [h1, h2, decide_true, Bool.true_and, List.all_map]
                rfl
              rw [this]
              exact k
        · simp only [h2, decide_false, Bool.not_false, if_true, exists_eq_left', D.bl.injEq]
          refine weakK_of ?_
          have : false = consB (.str z) g most := by
            unfold consB
            simp only [h1, h2, decide_true, decide_false, Bool.and_false, Bool.false_and]
          rw [this]
          exact k
      · simp only [h1, decide_false, Bool.not_false, if_true, if_false, Bool.false_eq_true, exists_eq_left', D.bl.injEq]
        refine ⟨hl, weakK_of ?_⟩
        have : false = consB (.str z) g most := by
          unfold consB
          simp only [h1, decide_false, Bool.false_and]
        rw [this]
        exact k
    | _ => cases hs
  · have e : isStr t = false := by simpa using hs
    simp only [e, Bool.not_false, if_true]
    refine weakK_of ?_
    have : consB t g most = false := by
      cases t <;> first | rfl | (cases e; done)
    rw [this] at k
    exact k
theorem ok_consists_of {P : Program} {w : World} {K : Frag} {mg : Str → Option Value} {base : Heap} (D : Def1 K mg "consists_of" s_consists_of) (z_len : mg "len" = none) (z_isinstance : mg "isinstance" = none) (z_str : mg "str" = none) (z_all : mg "all" = none)  : Fn1 P w K mg base 1 "consists_of" s_consists_of ["thing", "signs", "most"] 3 S_consists_of :=
  fn1 D sc_consists_of rfl (fun _ _ _ _ _ _ us hl => match us, hl with | [_, _, _], _ => rfl) (W := fun Ξ => w_consists_of K Ξ) (fun f cdv A outer s H E hr => ⟨_, (pss_cons (ps_if (PW.pt (pw_or (pt_not (pt_trK (K := K) (pe_callB (b_isinstance (K := K)) (by rfl) z_isinstance (by decide +kernel) (pa_cons (pv 0) (pa_cons (pe_ty z_str (by decide +kernel)) pa_nil))))) (pw_or1 (pt_not (pt_chain op_leA op_leA pe_int (pe_callB (b_len (K := K)) (by rfl) z_len PySem.boot_len (pa_cons (pv 0) pa_nil)) (pv 2))))))
  (pss_one (ps_ret pe_bl)) pss_nil)
  (pss_one (ps_ret (pe_callB (b_all (K := K)) (by rfl) z_all (by decide +kernel) (pa_cons (pe_lc (own := [("sign", 3)]) (g := (gName 3)) (tt := tYes) rfl sc_consists_of.nd (pi_seqK (K := K) (pv 0)) (blkOk_by (N := ["thing", "signs", "most", "sign"]) (sc := defScope s_consists_of) (by decide +kernel)) (fun _ _ _ _ _ => (pg_name (i := 3) sc_consists_of.nd rfl (by first | exact Or.inl rfl | exact Or.inr rfl))) (fun _ _ _ _ _ => pts_nil) (fun _ _ _ _ _ => (pe_cmpR (k_in (K := K) hr) (pv 3) (pv 1) (by rfl)))) pa_nil))))),
  fun Ξ => inferInstance⟩) pure_consists_of
def S_is_name : DSp := fun ds M Q _ => ∃ t, ds = [t] ∧ Good t ∧ Q (.bl (consB t nameS 20 && firstB t)) M
abbrev w_is_name (Ξ : DL.WX) : WS :=
  (wRet (wAndV (wCall 3 S_consists_of [] noX (wCons (wVar 0) (wCons (wOp wAdd (wOp wAdd (wC (.str "abcdefghijklmnopqrstuvwxyz")) (wC (.str "0123456789"))) (wC (.str "-"))) (wCons (wC (.int 20)) wNil)))) (wOp (wIn false) (wOp wIx (wVar 0) (wC (.int 0))) (wC (.str "abcdefghijklmnopqrstuvwxyz")))))
theorem pure_is_name : ∀ ds M Qd Ed, ds.length = 1 → S_is_name ds M Qd Ed → w_is_name (weakX Ed) { nx := fun _ M => weakK Qd .non M, rt := weakK Qd } (startD ["thing"] ds) M := by
  rintro ds M Qd Ed - ⟨t, rfl, ht, k⟩
  walk_at "ws"
  have e : (("abcdefghijklmnopqrstuvwxyz" : Str) ++ ("0123456789" : Str) ++ ("-" : Str)) = nameS := by decide +kernel
  refine ⟨by decide +kernel, by decide +kernel, t, nameS, 20, congrArg (fun z => [t, D.str z, D.int 20]) e, ht, _, rfl, ite2 (fun h => ?_) (fun h => ?_)⟩
  · cases t with
    | str z =>
      obtain ⟨c, e1, e2⟩ := cons_first h
      refine ⟨0, c, rfl, small (Nat.le_trans (ht.2 z rfl).1 (by decide)), e1, weakK_of ?_⟩
      have : inStr ⟨#[c]⟩ lettersN = (consB (.str z) nameS 20 && firstB (.str z)) := by
        rw [h, Bool.true_and, inStr_one]
        unfold firstB
        exact congrArg (fun x => decide (x ∈ lettersN.cps.toList)) e2.symm
      exact this ▸ k
    | _ => cases h
  · have h : consB t nameS 20 = false := by simpa using h
    rw [h, Bool.false_and] at k
    exact weakK_of k
theorem ok_is_name {P : Program} {w : World} {K : Frag} {mg : Str → Option Value} {base : Heap} (D : Def1 K mg "is_name" s_is_name) (g_LETTERS : ∃ t, mg "LETTERS" = some (.str "abcdefghijklmnopqrstuvwxyz" t)) (H_consists_of : Fn1 P w K mg base 1 "consists_of" s_consists_of ["thing", "signs", "most"] 3 S_consists_of) (g_MOST_NAME : ∃ t, mg "MOST_NAME" = some (.int 20 t)) (g_DIGITS : ∃ t, mg "DIGITS" = some (.str "0123456789" t))  : Fn1 P w K mg base 2 "is_name" s_is_name ["thing"] 1 S_is_name :=
  fn1 D sc_is_name rfl (fun _ _ _ _ _ _ us hl => match us, hl with | [_], _ => rfl) (W := fun Ξ => w_is_name Ξ) (fun f cdv A outer s H E hr => ⟨_, (pss_one (ps_ret (pe_and (pe_fnK (K := K) H_consists_of hr (by decide) passL (pa_cons (pv 0) (pa_cons (pe_op (k_add (K := K)) (pe_op (k_add (K := K)) (pe_gs g_LETTERS) (pe_gs g_DIGITS)) pe_str) (pa_cons (pe_gi g_MOST_NAME) pa_nil)))) (pe_one (pe_cmpR (k_in (K := K) hr) (pe_ixK (K := K) hr (pv 0) pe_int) (pe_gs g_LETTERS) (by rfl)))))),
  fun Ξ => inferInstance⟩) pure_is_name
def S_is_path : DSp := fun ds M Q _ => ∃ t, ds = [t] ∧ Good t ∧ Q (.bl (consB t pathS 60)) M
abbrev w_is_path (Ξ : DL.WX) : WS :=
  (wRet (wCall 3 S_consists_of [] noX (wCons (wVar 0) (wCons (wOp wAdd (wOp wAdd (wC (.str "abcdefghijklmnopqrstuvwxyz")) (wC (.str "0123456789"))) (wC (.str ".-/"))) (wCons (wC (.int 60)) wNil)))))
theorem pure_is_path : ∀ ds M Qd Ed, ds.length = 1 → S_is_path ds M Qd Ed → w_is_path (weakX Ed) { nx := fun _ M => weakK Qd .non M, rt := weakK Qd } (startD ["thing"] ds) M := by
  rintro ds M Qd Ed - ⟨t, rfl, ht, k⟩
  walk_at "ws"
  have e : (("abcdefghijklmnopqrstuvwxyz" : Str) ++ ("0123456789" : Str) ++ (".-/" : Str)) = pathS := by decide +kernel
  refine ⟨by decide +kernel, by decide +kernel, t, pathS, 60, ?_, ht, weakK_of k⟩
  exact congrArg (fun z => [t, D.str z, D.int 60]) e
theorem ok_is_path {P : Program} {w : World} {K : Frag} {mg : Str → Option Value} {base : Heap} (D : Def1 K mg "is_path" s_is_path) (H_consists_of : Fn1 P w K mg base 1 "consists_of" s_consists_of ["thing", "signs", "most"] 3 S_consists_of) (g_MOST_PATH : ∃ t, mg "MOST_PATH" = some (.int 60 t)) (g_LETTERS : ∃ t, mg "LETTERS" = some (.str "abcdefghijklmnopqrstuvwxyz" t)) (g_DIGITS : ∃ t, mg "DIGITS" = some (.str "0123456789" t))  : Fn1 P w K mg base 2 "is_path" s_is_path ["thing"] 1 S_is_path :=
  fn1 D sc_is_path rfl (fun _ _ _ _ _ _ us hl => match us, hl with | [_], _ => rfl) (W := fun Ξ => w_is_path Ξ) (fun f cdv A outer s H E hr => ⟨_, (pss_one (ps_ret (pe_fnK (K := K) H_consists_of hr (by decide) passL (pa_cons (pv 0) (pa_cons (pe_op (k_add (K := K)) (pe_op (k_add (K := K)) (pe_gs g_LETTERS) (pe_gs g_DIGITS)) pe_str) (pa_cons (pe_gi g_MOST_PATH) pa_nil)))))),
  fun Ξ => inferInstance⟩) pure_is_path
def S_is_word : DSp := fun ds M Q _ => ∃ t, ds = [t] ∧ Good t ∧ Q (.bl (consB t lettersS 12)) M
abbrev w_is_word (Ξ : DL.WX) : WS :=
  (wRet (wCall 3 S_consists_of [] noX (wCons (wVar 0) (wCons (wC (.str "abcdefghijklmnopqrstuvwxyz")) (wCons (wC (.int 12)) wNil)))))
theorem pure_is_word : ∀ ds M Qd Ed, ds.length = 1 → S_is_word ds M Qd Ed → w_is_word (weakX Ed) { nx := fun _ M => weakK Qd .non M, rt := weakK Qd } (startD ["thing"] ds) M := by
  rintro ds M Qd Ed - ⟨t, rfl, ht, k⟩
  walk_at "ws"
  exact ⟨t, _, _, rfl, ht, weakK_of k⟩
theorem ok_is_word {P : Program} {w : World} {K : Frag} {mg : Str → Option Value} {base : Heap} (D : Def1 K mg "is_word" s_is_word) (H_consists_of : Fn1 P w K mg base 1 "consists_of" s_consists_of ["thing", "signs", "most"] 3 S_consists_of) (g_MOST_WORD : ∃ t, mg "MOST_WORD" = some (.int 12 t)) (g_LETTERS : ∃ t, mg "LETTERS" = some (.str "abcdefghijklmnopqrstuvwxyz" t))  : Fn1 P w K mg base 2 "is_word" s_is_word ["thing"] 1 S_is_word :=
  fn1 D sc_is_word rfl (fun _ _ _ _ _ _ us hl => match us, hl with | [_], _ => rfl) (W := fun Ξ => w_is_word Ξ) (fun f cdv A outer s H E hr => ⟨_, (pss_one (ps_ret (pe_fnK (K := K) H_consists_of hr (by decide) passL (pa_cons (pv 0) (pa_cons (pe_gs g_LETTERS) (pa_cons (pe_gi g_MOST_WORD) pa_nil)))))),
  fun Ξ => inferInstance⟩) pure_is_word
def S__law_right : DSp := fun ds M Q _ => ∃ t, ds = [t] ∧ Good t ∧ Q (.bl true) M
abbrev w__law_right (Ξ : DL.WX) : WS :=
  (wSeq (wAsg (wC (.str "abcdefghijklmnopqrstuvwxyz")) (wName 1))
  (wSeq (wAsg (wLst (wCons (wCall 3 S__law_consists [] noX (wCons (wVar 0) (wCons (wOp wAdd (wVar 1) (wC (.str "0123456789-"))) (wCons (wC (.int 20)) wNil)))) (wCons (wCall 3 S__law_consists [] noX (wCons (wVar 0) (wCons (wVar 1) (wCons (wC (.int 12)) wNil)))) wNil))) (wName 2))
  (wSeq (wAsg (wLst (wCons (wAndV (wOp wIx (wVar 2) (wC (.int 0))) (wOp (wIn false) (wOp wIx (wVar 0) (wC (.int 0))) (wVar 1))) (wCons (wOp wIx (wVar 2) (wC (.int 1))) (wCons (wCall 3 S__law_consists [] noX (wCons (wVar 0) (wCons (wOp wAdd (wVar 1) (wC (.str "0123456789.-/"))) (wCons (wC (.int 60)) wNil)))) wNil)))) (wName 2))
  (wSeq (wAsg (wLst (wCons (wCall 1 S_is_name [] noX (wCons (wVar 0) wNil)) (wCons (wCall 1 S_is_word [] noX (wCons (wVar 0) wNil)) (wCons (wCall 1 S_is_path [] noX (wCons (wVar 0) wNil)) wNil)))) (wName 3))
  (wSeq (wAsg (wLst (wCons (wCallN 0 1 1 S_is_name noX wNil (wCons (wVar 0) wNil)) (wCons (wCallN 0 1 1 S_is_word noX wNil (wCons (wVar 0) wNil)) (wCons (wCallN 0 1 1 S_is_path noX wNil (wCons (wVar 0) wNil)) wNil)))) (wName 4))
  (wRet (wAndV (wOp (eqW false) (wCB wRepr (wCons (wVar 3) wNil)) (wCB wRepr (wCons (wVar 2) wNil))) (wOp (eqW false) (wCB wRepr (wCons (wVar 4) wNil)) (wCB wRepr (wCons (wVar 2) wNil))))))))))
def show3 (a b c : Bool) : Str := (PyData.list [.bool a, .bool b, .bool c]).shown
theorem repr3 {a b c : Bool} {M : Mem} {Q : WK} (q : Q (.str (show3 a b c)) M) : wRepr [.lst [.bl a, .bl b, .bl c]] M Q := by
  refine ⟨_, .list [.bool a, .bool b, .bool c], rfl, rfl, rfl, ?_, ?_, small ?_, q⟩
  · cases a <;> cases b <;> cases c <;> decide +kernel
  · cases a <;> cases b <;> cases c <;> decide +kernel
  · cases a <;> cases b <;> cases c <;> decide +kernel
theorem pure__law_right : ∀ ds M Qd Ed, ds.length = 1 → S__law_right ds M Qd Ed → w__law_right (weakX Ed) { nx := fun _ M => weakK Qd .non M, rt := weakK Qd } (startD ["_law_what", "_law_small", "_law_due", "_law_told", "_law_named"] ds) M := by
  rintro ds M Qd Ed - ⟨t, rfl, ht, k⟩
  walk_at "ws"
  walk_at "wn"
  refine ⟨by decide +kernel, t, nameS, 20, ?_, ht, t, lettersN, 12, ?_, ht, ?_, ?_⟩
  · have e : (("abcdefghijklmnopqrstuvwxyz" : Str) ++ ("0123456789-" : Str)) = nameS := by decide +kernel
    exact congrArg (fun z => [t, D.str z, D.int 20]) e
  · rfl
  · exact small (by simp)
  have tail (s : D) : ∀ (x d : D), x = .bl (consB t nameS 20 && firstB t) → d = .bl (consB t lettersN 12) → (("abcdefghijklmnopqrstuvwxyz" : Str).length + ("0123456789.-/" : Str).length ≤ sizeLine) ∧ S__law_consists [t, .str (("abcdefghijklmnopqrstuvwxyz" : Str) ++ ("0123456789.-/" : Str)), .int 60] M (fun y M1 => 3 ≤ sizeLine ∧ wHold (wSeq (wAsg (wLst (wCons (wCall 1 S_is_name [] noX (wCons (wVar 0) wNil)) (wCons (wCall 1 S_is_word [] noX (wCons (wVar 0) wNil)) (wCons (wCall 1 S_is_path [] noX (wCons (wVar 0) wNil)) wNil)))) (wName 3))
      (wSeq (wAsg (wLst (wCons (wCallN 0 1 1 S_is_name noX wNil (wCons (wVar 0) wNil)) (wCons (wCallN 0 1 1 S_is_word noX wNil (wCons (wVar 0) wNil)) (wCons (wCallN 0 1 1 S_is_path noX wNil (wCons (wVar 0) wNil)) wNil)))) (wName 4))
      (wRet (wAndV (wOp (eqW false) (wCB wRepr (wCons (wVar 3) wNil)) (wCB wRepr (wCons (wVar 2) wNil))) (wOp (eqW false) (wCB wRepr (wCons (wVar 4) wNil)) (wCB wRepr (wCons (wVar 2) wNil))))))) { nx := fun _ M => weakK Qd .non M, rt := weakK Qd } [some t, some s, some (.lst [x, d, y]), none, none] M1) noX := by
    rintro x d rfl rfl
    refine ⟨by decide +kernel, t, pathS, 60, ?_, ht, small (by simp), ?_⟩
    · have e : (("abcdefghijklmnopqrstuvwxyz" : Str) ++ ("0123456789.-/" : Str)) = pathS := by decide +kernel
      exact congrArg (fun z => [t, D.str z, D.int 60]) e
    walk_at "wn"
    refine ⟨t, rfl, ht, t, rfl, ht, t, rfl, ht, small (by simp), ?_⟩
    walk_at "wn"
    refine ⟨t, rfl, ht, t, rfl, ht, t, rfl, ht, small (by simp), ?_⟩
    walk_at "wn"
    refine repr3 (repr3 (ite2 (fun _ => repr3 (repr3 ?_)) fun h => absurd (decide_eq_true rfl) h))
    simp only [show lettersS = lettersN from rfl, decide_true]
    exact weakK_of k
  walk_at "wn"
  refine ⟨_, rfl, _, rfl, ite2 (fun h => ?_) fun h => ⟨_, rfl, ?_⟩⟩
  · cases t with
    | str z =>
      obtain ⟨c, e1, e2⟩ := cons_first h
      have hx : inStr ⟨#[c]⟩ lettersN = (consB (.str z) nameS 20 && firstB (.str z)) := by
        rw [h, Bool.true_and, inStr_one]
        unfold firstB
        exact congrArg (fun x => decide (x ∈ lettersN.cps.toList)) e2.symm
      exact ⟨0, c, rfl, small (Nat.le_trans (ht.2 z rfl).1 (by decide)), e1, _, rfl, tail _ _ _ (congrArg D.bl hx) rfl⟩
    | _ => cases h
  · have h : consB t nameS 20 = false := by simpa using h
    exact tail _ _ _ (by rw [h, Bool.false_and]) rfl
theorem ok__law_right {P : Program} {w : World} {K : Frag} {mg : Str → Option Value} {base : Heap} (D : Def1 K mg "_law_right" s__law_right) (H__law_consists : Fn1 P w K mg base 1 "_law_consists" s__law_consists ["_law_what", "_law_signs", "_law_most"] 3 S__law_consists) (H_is_path : Fn1 P w K mg base 2 "is_path" s_is_path ["thing"] 1 S_is_path) (H_is_word : Fn1 P w K mg base 2 "is_word" s_is_word ["thing"] 1 S_is_word) (H_is_name : Fn1 P w K mg base 2 "is_name" s_is_name ["thing"] 1 S_is_name) (z_repr : mg "repr" = none)  : Fn1G P w K mg base 3 "_law_right" s__law_right ["_law_what"] 1 S__law_right :=
  fn1G D sc__law_right rfl (fun _ _ _ _ _ _ us hl => match us, hl with | [_], _ => rfl) (W := fun Ξ => w__law_right Ξ) (fun f cdv A outer s H E hg hr => ⟨_, (pss_cons (ps_set (i := 1) sc__law_right.nd rfl (Or.inl rfl) pe_str)
  (pss_cons (ps_set (i := 2) sc__law_right.nd rfl (Or.inl rfl) (pe_lst (pa_cons (pe_fnK (K := K) H__law_consists hr (by decide) passL (pa_cons (pv 0) (pa_cons (pe_op (k_add (K := K)) (pv 1) pe_str) (pa_cons pe_int pa_nil)))) (pa_cons (pe_fnK (K := K) H__law_consists hr (by decide) passL (pa_cons (pv 0) (pa_cons (pv 1) (pa_cons pe_int pa_nil)))) pa_nil))))
  (pss_cons (ps_set (i := 2) sc__law_right.nd rfl (Or.inl rfl) (pe_lst (pa_cons (pe_and (pe_ixK (K := K) hr (pv 2) pe_int) (pe_one (pe_cmpR (k_in (K := K) hr) (pe_ixK (K := K) hr (pv 0) pe_int) (pv 1) (by rfl)))) (pa_cons (pe_ixK (K := K) hr (pv 2) pe_int) (pa_cons (pe_fnK (K := K) H__law_consists hr (by decide) passL (pa_cons (pv 0) (pa_cons (pe_op (k_add (K := K)) (pv 1) pe_str) (pa_cons pe_int pa_nil)))) pa_nil)))))
  (pss_cons (ps_set (i := 3) sc__law_right.nd rfl (Or.inl rfl) (pe_lst (pa_cons (pe_fnK (K := K) H_is_name hr (by decide) passL (pa_cons (pv 0) pa_nil)) (pa_cons (pe_fnK (K := K) H_is_word hr (by decide) passL (pa_cons (pv 0) pa_nil)) (pa_cons (pe_fnK (K := K) H_is_path hr (by decide) passL (pa_cons (pv 0) pa_nil)) pa_nil)))))
  (pss_cons (ps_set (i := 4) sc__law_right.nd rfl (Or.inl rfl) (pe_lst (pa_cons (pe_kw0 (K := K) (ks := ["thing"]) H_is_name hr (by decide) passL (pk_cons (pv 0) pk_nil) (fun _ _ _ _ _ _ us ws h1 h2 => match us, ws, h1, h2 with | [], [_], _, _ => rfl)) (pa_cons (pe_kw0 (K := K) (ks := ["thing"]) H_is_word hr (by decide) passL (pk_cons (pv 0) pk_nil) (fun _ _ _ _ _ _ us ws h1 h2 => match us, ws, h1, h2 with | [], [_], _, _ => rfl)) (pa_cons (pe_kw0 (K := K) (ks := ["thing"]) H_is_path hr (by decide) passL (pk_cons (pv 0) pk_nil) (fun _ _ _ _ _ _ us ws h1 h2 => match us, ws, h1, h2 with | [], [_], _, _ => rfl)) pa_nil)))))
  (pss_one (ps_ret (pe_and (pe_cmpR (k_eq (K := K) hr) (pe_callB (b_repr (K := K) hg hr) (by rfl) z_repr (by decide +kernel) (pa_cons (pv 3) pa_nil)) (pe_callB (b_repr (K := K) hg hr) (by rfl) z_repr (by decide +kernel) (pa_cons (pv 2) pa_nil)) (nomark _)) (pe_one (pe_cmpR (k_eq (K := K) hr) (pe_callB (b_repr (K := K) hg hr) (by rfl) z_repr (by decide +kernel) (pa_cons (pv 4) pa_nil)) (pe_callB (b_repr (K := K) hg hr) (by rfl) z_repr (by decide +kernel) (pa_cons (pv 2) pa_nil)) (nomark _))))))))))),
  fun Ξ => inferInstance⟩) pure__law_right
def S__law_string : DSp := fun ds M Q _ => ∃ (p : Addr) (n : Nat), ds = [.ref p] ∧ M p = some (Draw n) ∧ n < 2 ^ 50 ∧ ∀ (a b c : Str) (m : Nat), Good (.str a) → Good (.str b) → Good (.str c) → m ≤ n + 80 → Q (.lst [.str a, .str b, .str c]) (mset M p (Draw m))
abbrev w__law_string (Ξ : DL.WX) : WS :=
  (wSeq (wAsg (wLst (wCons (wC (.str "abcxyz")) (wCons (wC (.str "az09-")) (wCons (wC (.str "a.b-9/")) (wCons (wC (.str "aA_ ")) (wCons (wC (.str "az09-./")) (wCons (wC (.str "0-9")) wNil))))))) (wName 1))
  (wSeq (wAsg (wOp wIx (wVar 1) (wCall 2 S__law_next [] noX (wCons (wVar 0) (wCons (wC (.int 6)) wNil)))) (wName 2))
  (wSeq (wAsg (wOp wIx (wLst (wCons (wC (.int 0)) (wCons (wC (.int 1)) (wCons (wC (.int 2)) (wCons (wC (.int 11)) (wCons (wC (.int 12)) (wCons (wC (.int 13)) (wCons (wC (.int 19)) (wCons (wC (.int 20)) (wCons (wC (.int 21)) (wCons (wC (.int 59)) (wCons (wC (.int 60)) (wCons (wC (.int 61)) (wCons (wCall 2 S__law_next [] noX (wCons (wVar 0) (wCons (wC (.int 30)) wNil))) wNil)))))))))))))) (wCall 2 S__law_next [] noX (wCons (wVar 0) (wCons (wC (.int 13)) wNil)))) (wName 3))
  (wSeq (wAsg (wBMs wJoin (wC (.str "")) (wCons (wLc (wRng1 (wCons (wVar 3) wNil)) (wName 7) [7] wYes (wOp wIx (wVar 2) (wCall 2 S__law_next [] noX (wCons (wVar 0) (wCons (wCB wLen (wCons (wVar 2) wNil)) wNil)))) [7]) wNil)) (wName 4))
  (wSeq (wAsg (wCall 2 S__law_next [] noX (wCons (wVar 0) (wCons (wOp wAdd (wVar 3) (wC (.int 1))) wNil))) (wName 5))
  (wSeq (wAsg (wOp wIx (wLst (wCons (wC (.str "A")) (wCons (wC (.str " ")) (wCons (wC (.str "\n")) (wCons (wC (.str "=")) (wCons (wC (.str "-")) (wCons (wC (.str "/")) (wCons (wC (.str ".")) wNil)))))))) (wCall 2 S__law_next [] noX (wCons (wVar 0) (wCons (wC (.int 7)) wNil)))) (wName 6))
  (wRet (wLst (wCons (wVar 4) (wCons (wOp wAdd (wC (.str "a")) (wSl (wVar 4) (wPart (wC (.int 1))) wNoPart)) (wCons (wOp wAdd (wOp wAdd (wSl (wVar 4) wNoPart (wPart (wVar 5))) (wVar 6)) (wSl (wVar 4) (wPart (wOp wAdd (wVar 5) (wC (.int 1)))) wNoPart)) wNil)))))))))))
theorem pure__law_string : ∀ ds M Qd Ed, ds.length = 1 → S__law_string ds M Qd Ed → w__law_string (weakX Ed) { nx := fun _ M => weakK Qd .non M, rt := weakK Qd } (startD ["_law_draw", "_law_kinds", "_law_signs", "_law_size", "_law_found", "_law_at", "_law_odd", "_law_k"] ds) M := by
  rintro ds M Qd Ed - ⟨p, n, rfl, hp, hn, k⟩
  walk_at "ws"
  refine ⟨small (by simp), ?_⟩
  walk_at "wn"
  refine ⟨p, 6, n, rfl, hp, by decide, by decide, by omega, fun r0 r00 r01 => ?_⟩
  obtain ⟨x, ex, hx⟩ := atI_some (l := [D.str "abcxyz", D.str "az09-", D.str "a.b-9/", D.str "aA_ ", D.str "az09-./", D.str "0-9"]) (i := r0) r00 (by simpa using r01)
  refine ⟨_, ex, ?_⟩
  have hx : ∃ g : Str, x = .str g ∧ 1 ≤ g.length ∧ g.length ≤ 10 ∧ PyData.strOk g = true := by
    simp only [List.mem_cons, List.not_mem_nil, or_false] at hx
    rcases hx with rfl | rfl | rfl | rfl | rfl | rfl <;> exact ⟨_, rfl, by decide +kernel, by decide +kernel, by decide +kernel⟩
  obtain ⟨g, rfl, g1, g2, g3⟩ := hx
  walk_at "wn"
  refine ⟨p, 30, n + 1, rfl, by walk_at "ws", by decide, by decide, by omega, fun r1 r10 r11 => ?_⟩
  walk_at "ws"
  refine ⟨small (by simp), p, 13, n + 2, rfl, by walk_at "ws", by decide, by decide, by omega, fun r2 r20 r21 => ?_⟩
  walk_at "ws"
  obtain ⟨x, ex, hx⟩ := atI_some (l := [D.int 0, .int 1, .int 2, .int 11, .int 12, .int 13, .int 19, .int 20, .int 21, .int 59, .int 60, .int 61, .int r1]) (i := r2) r20 (by simpa using r21)
  refine ⟨x, ex, ?_⟩
  have hx : ∃ j : Int, x = .int j ∧ 0 ≤ j ∧ j ≤ 61 := by
    simp only [List.mem_cons, List.not_mem_nil, or_false] at hx
    rcases hx with rfl | rfl | rfl | rfl | rfl | rfl | rfl | rfl | rfl | rfl | rfl | rfl | rfl <;> exact ⟨_, rfl, by omega, by omega⟩
  obtain ⟨j, rfl, j0, j1⟩ := hx
  clear ex
  walk_at "wn"
  unfold wLc
  walk_at "ws"
  refine ⟨by omega, by omega, rfl, small (by unfold rngD; simp; omega), fun i acc M' => M' = mset M p (Draw (n + 3 + i)) ∧ ∃ ys : List Str, acc = ys.map D.str ∧ ys.length = i ∧ ∀ a ∈ ys, a.length = 1 ∧ PyData.strOk a = true, ⟨rfl, [], rfl, rfl, by simp⟩, ?_, ?_⟩
  · rintro i x acc _ hx - ⟨rfl, ys, rfl, hl, hy⟩
    have hi : i < j.toNat := by
      have h1 := (List.getElem?_eq_some_iff.mp hx).1
      unfold rngD at h1
      simpa using h1
    have gl : g.length ≤ sizeLine := small (by omega)
    refine ⟨gl, p, g.length, n + 3 + i, rfl, mset_same, by omega, by omega, by omega, fun r ra rb => ?_⟩
    obtain ⟨c, e, hc⟩ := atI_some (l := g.cps.toList) (i := r) ra (by rw [← len_eq]; exact rb)
    refine ⟨r, c, rfl, gl, e, ?_, ys ++ [⟨#[c]⟩], by simp, by simp [hl], ?_⟩
    · rw [mset_mset]
      rfl
    · intro a ha
      rcases List.mem_append.mp ha with h | h
      · exact hy a h
      · rw [List.mem_singleton.mp h]
        refine ⟨rfl, strOk_of fun c' h' => ?_⟩
        rw [List.mem_singleton.mp h']
        exact strOk_mem g3 hc
  · rintro acc _ - ⟨rfl, ys, rfl, hl, hy⟩
    have hl : ys.length = j.toNat := by
      rw [hl]
      unfold rngD
      simp
    have hs : (ys.map (·.length)).sum = ys.length := sum_len_one fun a ha => (hy a ha).1
    have e0 : ("" : Str).length = 0 := rfl
    have zl : (Txt.join "" ys).length ≤ 61 := by
      have := join_len (y := "") (ys := ys)
      rw [e0, hs] at this
      omega
    have zk : PyData.strOk (Txt.join "" ys) = true := strOk_join (by decide +kernel) fun a ha => (hy a ha).2
    refine ⟨"", _, ys, rfl, rfl, Or.inl (Or.inl rfl), by rw [e0, hs]; omega, ?_⟩
    generalize Txt.join "" ys = z at zl zk
    have hm : (rngD 0 j.toNat).length = j.toNat := by unfold rngD; simp
    rw [hm]
    walk_at "wn"
    refine ⟨p, j + 1, n + 3 + j.toNat, rfl, mset_same, by omega, by omega, by omega, fun r3 r30 r31 => ?_⟩
    walk_at "wn"
    refine ⟨small (by simp), p, 7, n + 3 + j.toNat + 1, rfl, mset_same, by omega, by omega, by omega, fun r4 r40 r41 => ?_⟩
    obtain ⟨x, ex, hx⟩ := atI_some (l := [D.str "A", D.str " ", D.str "\n", D.str "=", D.str "-", D.str "/", D.str "."]) (i := r4) r40 (by simpa using r41)
    refine ⟨x, ex, ?_⟩
    have hx : ∃ o : Str, x = .str o ∧ o.length = 1 ∧ PyData.strOk o = true := by
      simp only [List.mem_cons, List.not_mem_nil, or_false] at hx
      rcases hx with rfl | rfl | rfl | rfl | rfl | rfl | rfl <;> exact ⟨_, rfl, by decide +kernel, by decide +kernel⟩
    obtain ⟨o, rfl, o1, o2⟩ := hx
    clear ex
    walk_at "wn"
    have z1 : z.length ≤ sizeLine := small (by omega)
    have c1 := cut_len (x := z) (lo := some 1) (hi := none)
    have c2 := cut_len (x := z) (lo := none) (hi := some r3)
    have c3 := cut_len (x := z) (lo := some (r3 + 1)) (hi := none)
    have a1 : ("a" : Str).length = 1 := rfl
    have e1 := Str.length_append (cutS z none (some r3)) o
    have e2 := Str.length_append (cutS z none (some r3) ++ o) (cutS z (some (r3 + 1)) none)
    have e3 := Str.length_append "a" (cutS z (some 1) none)
    refine ⟨z1, small (by omega), z1, small (by omega), z1, small (by omega), small (by simp), ?_⟩
    refine weakK_of (k _ _ _ (n + 3 + j.toNat + 2) ⟨⟨_, rfl⟩, ?_⟩ ⟨⟨_, rfl⟩, ?_⟩ ⟨⟨_, rfl⟩, ?_⟩ (by omega))
    · rintro _ ⟨⟩
      exact ⟨by omega, zk⟩
    · rintro _ ⟨⟩
      exact ⟨by omega, strOk_append (by decide +kernel) (strOk_cut zk)⟩
    · rintro _ ⟨⟩
      exact ⟨by omega, strOk_append (strOk_append (strOk_cut zk) o2) (strOk_cut zk)⟩
theorem ok__law_string {P : Program} {w : World} {K : Frag} {mg : Str → Option Value} {base : Heap} (D : Def1 K mg "_law_string" s__law_string) (H__law_next : Fn1 P w K mg base 2 "_law_next" s__law_next ["_law_draw", "_law_bound"] 2 S__law_next) (z_range : mg "range" = none) (z_len : mg "len" = none)  : Fn1 P w K mg base 3 "_law_string" s__law_string ["_law_draw"] 1 S__law_string :=
  fn1 D sc__law_string rfl (fun _ _ _ _ _ _ us hl => match us, hl with | [_], _ => rfl) (W := fun Ξ => w__law_string Ξ) (fun f cdv A outer s H E hr => ⟨_, (pss_cons (ps_set (i := 1) sc__law_string.nd rfl (Or.inl rfl) (pe_lst (pa_cons pe_str (pa_cons pe_str (pa_cons pe_str (pa_cons pe_str (pa_cons pe_str (pa_cons pe_str pa_nil))))))))
  (pss_cons (ps_set (i := 2) sc__law_string.nd rfl (Or.inr rfl) (pe_ixK (K := K) hr (pv 1) (pe_fnK (K := K) H__law_next hr (by decide) passL (pa_cons (pv 0) (pa_cons pe_int pa_nil)))))
  (pss_cons (ps_set (i := 3) sc__law_string.nd rfl (Or.inl rfl) (pe_ixK (K := K) hr (pe_lst (pa_cons pe_int (pa_cons pe_int (pa_cons pe_int (pa_cons pe_int (pa_cons pe_int (pa_cons pe_int (pa_cons pe_int (pa_cons pe_int (pa_cons pe_int (pa_cons pe_int (pa_cons pe_int (pa_cons pe_int (pa_cons (pe_fnK (K := K) H__law_next hr (by decide) passL (pa_cons (pv 0) (pa_cons pe_int pa_nil))) pa_nil)))))))))))))) (pe_fnK (K := K) H__law_next hr (by decide) passL (pa_cons (pv 0) (pa_cons pe_int pa_nil)))))
  (pss_cons (ps_set (i := 4) sc__law_string.nd rfl (Or.inl rfl) (pe_joinK (K := K) pe_str (pa_cons (pe_lc (own := [("_law_k", 7)]) (g := (gName 7)) (tt := tYes) rfl sc__law_string.nd (pi_range1 rfl z_range (pa_cons (pv 3) pa_nil)) (blkOk_by (N := ["_law_draw", "_law_kinds", "_law_signs", "_law_size", "_law_found", "_law_at", "_law_odd", "_law_k"]) (sc := defScope s__law_string) (by decide +kernel)) (fun _ _ _ _ _ => (pg_name (i := 7) sc__law_string.nd rfl (by first | exact Or.inl rfl | exact Or.inr rfl))) (fun _ _ _ _ _ => pts_nil) (fun _ _ _ _ _ => (pe_ixK (K := K) hr (pv 2) (pe_fnK (K := K) H__law_next hr (by decide) passL (pa_cons (pv 0) (pa_cons (pe_callB (b_len (K := K)) (by rfl) z_len PySem.boot_len (pa_cons (pv 2) pa_nil)) pa_nil)))))) pa_nil)))
  (pss_cons (ps_set (i := 5) sc__law_string.nd rfl (Or.inl rfl) (pe_fnK (K := K) H__law_next hr (by decide) passL (pa_cons (pv 0) (pa_cons (pe_op (k_add (K := K)) (pv 3) pe_int) pa_nil))))
  (pss_cons (ps_set (i := 6) sc__law_string.nd rfl (Or.inl rfl) (pe_ixK (K := K) hr (pe_lst (pa_cons pe_str (pa_cons pe_str (pa_cons pe_str (pa_cons pe_str (pa_cons pe_str (pa_cons pe_str (pa_cons pe_str pa_nil)))))))) (pe_fnK (K := K) H__law_next hr (by decide) passL (pa_cons (pv 0) (pa_cons pe_int pa_nil)))))
  (pss_one (ps_ret (pe_lst (pa_cons (pv 4) (pa_cons (pe_op (k_add (K := K)) pe_str (pe_slK (K := K) (pv 4) (po_some pe_int) po_none)) (pa_cons (pe_op (k_add (K := K)) (pe_op (k_add (K := K)) (pe_slK (K := K) (pv 4) po_none (po_some (pv 5))) (pv 6)) (pe_slK (K := K) (pv 4) (po_some (pe_op (k_add (K := K)) (pv 5) pe_int)) po_none)) pa_nil)))))))))))),
  fun Ξ => inferInstance⟩) pure__law_string
def S_law : DSp := fun ds M Q _ => ∃ ns : List Int, ds = [.lst (ns.map .int)] ∧ ns.length ≤ 63 ∧ ∀ M, Q (.bl true) M
abbrev w_law (Ξ : DL.WX) : WS :=
  (wSeq (wAsg (wCall 1 S__law_begin [] noX (wCons (wVar 0) wNil)) (wName 1))
  (wSeq (wFor (wRng1 (wCons (wCB wMin2 (wCons (wC (.int 24)) (wCons (wOp wAdd (wC (.int 6)) (wCB wLen (wCons (wVar 0) wNil))) wNil))) wNil)) (wName 2)
  (wSeq (wFor (wSeqI (wCall 1 S__law_string [] noX (wCons (wVar 1) wNil))) (wName 3)
  (wIfS (wNot (wTruth (wCall 1 S__law_right [] noX (wCons (wVar 3) wNil))))
  (wRet (wC (.bl false))) wNext))
  (wSeq (wAsg (wOp wIx (wLst (wCons (wC .non) (wCons (wC (.int 5)) (wCons (wC (.bl true)) (wCons (wTup wNil) (wCons (wLst (wCons (wC (.str "a")) wNil)) (wCons (wTup (wCons (wC (.str "a")) wNil)) (wCons (wC (.dic [] [])) (wCons (wDisp [((wC (.str "a")), (wC (.int 1)))]) (wCons (wOp (wII CPow fun i j => .int (i ^ j.toNat)) (wC (.int 10)) (wC (.int 30))) wNil)))))))))) (wCall 2 S__law_next [] noX (wCons (wVar 1) (wCons (wC (.int 9)) wNil)))) (wName 4))
  (wIfS (wNot (wTruth (wCall 1 S__law_right [] noX (wCons (wVar 4) wNil))))
  (wRet (wC (.bl false))) wNext))))
  (wRet (wC (.bl true)))))
theorem good_odd {x : D} {l : List D} (h : x ∈ l) (hl : ∀ y ∈ l, (∃ n, tyS y = some n) ∧ isStr y = false) : Good x := by
  refine ⟨(hl x h).1, ?_⟩
  rintro z rfl
  exact absurd (hl _ h).2 (by simp [isStr])
theorem pure_law : ∀ ds M Qd Ed, ds.length = 1 → S_law ds M Qd Ed → w_law (weakX Ed) { nx := fun _ M => weakK Qd .non M, rt := weakK Qd } (startD ["_law_script", "_law_draw", "_law_turn", "_law_what", "_law_odd"] ds) M := by
  rintro ds M Qd Ed - ⟨ns, rfl, hl, k⟩
  walk_at "ws"
  refine ⟨ns, rfl, hl, fun p hp => ?_⟩
  walk_at "wn"
  unfold wFor
  walk_at "ws"
  have hz : (ns.map D.int).length = ns.length := List.length_map ..
  refine ⟨24, 6 + ((ns.map D.int).length : Int), ⟨rfl, rfl⟩, by split <;> omega, by split <;> omega, fun i δ M' => ∃ x y z n, δ = [some (.lst (ns.map .int)), some (.ref p), x, y, z] ∧ M' p = some (Draw n) ∧ n ≤ 100 * i, ⟨_, _, _, 0, rfl, mset_same, by omega⟩, ?_, ?_⟩
  · rintro i x _ M' hx ⟨x0, y0, z0, n, rfl, hp, hn⟩
    have hi : i < 24 := by
      have h1 := (List.getElem?_eq_some_iff.mp hx).1
      unfold rngD at h1
      rw [List.length_map, List.length_range] at h1
      split at h1 <;> omega
    walk_at "ws"
    refine ⟨p, n, rfl, hp, by omega, fun a b c m ga gb gc hm => ?_⟩
    walk_at "ws"
    refine ⟨fun i δ M' => ∃ y, δ = [some (.lst (ns.map .int)), some (.ref p), some x, y, z0] ∧ M' p = some (Draw m), ⟨_, rfl, mset_same⟩, ?_, ?_⟩
    · rintro i' x' _ M2 hx' ⟨y1, rfl, hp2⟩
      have gx : Good x' := by
        have := mem_of_get hx'
        simp only [List.mem_cons, List.not_mem_nil, or_false] at this
        rcases this with rfl | rfl | rfl <;> assumption
      walk_at "ws"
      refine ⟨x', rfl, gx, ?_⟩
      walk_at "ws"
      exact ite2 (fun h => absurd h (by decide)) fun _ => by first | exact hp2 | exact ⟨_, rfl, hp2⟩
    · rintro _ M2 ⟨y1, rfl, hp2⟩
      walk_at "wn"
      refine ⟨small (by simp), small (by simp), small (by simp), by decide +kernel, (by unfold CPow; decide), small (by simp), ?_⟩
      refine ⟨p, 9, m, rfl, hp2, by decide, by decide, by omega, fun r r0 r1 => ?_⟩
      obtain ⟨o, eo, ho⟩ := atI_some (l := [D.non, D.int 5, D.bl true, D.tup [], D.lst [D.str "a"], D.tup [D.str "a"], D.dic [] [], D.dic ((mergeD [] [(Sum.inr ("a" : Str), D.int 1)]).map Prod.fst) ((mergeD [] [(Sum.inr ("a" : Str), D.int 1)]).map Prod.snd), D.int (10 ^ Int.toNat 30)]) (i := r) r0 (by simpa using r1)
      refine ⟨o, eo, ?_⟩
      have go : Good o := by
        refine good_odd ho fun y hy => ?_
        simp only [List.mem_cons, List.not_mem_nil, or_false] at hy
        rcases hy with rfl | rfl | rfl | rfl | rfl | rfl | rfl | rfl | rfl <;> exact ⟨⟨_, rfl⟩, rfl⟩
      clear ho eo
      walk_at "wn"
      refine ⟨o, rfl, go, ?_⟩
      walk_at "ws"
      refine ite2 (fun h => absurd h (by decide)) fun _ => ⟨_, _, _, m + 1, ⟨rfl, rfl, rfl⟩, rfl, by omega⟩
  · rintro _ M' ⟨x0, y0, z0, n, rfl, hp, hn⟩
    walk_at "wn"
    exact weakK_of (k _)
theorem law_end : ∀ (M : Mem) (ns : List Int), ns.length ≤ 63 → (∀ a, M a = none) → S_law [.lst (ns.map D.int)] M (fun v _ => v = .bl true) fun _ _ => False :=
  fun _ ns h _ => ⟨ns, rfl, h, fun _ => rfl⟩
theorem ok_law {P : Program} {w : World} {K : Frag} {mg : Str → Option Value} {base : Heap} (D : Def1 K mg "law" s_law) (H__law_begin : Fn1 P w K mg base 1 "_law_begin" s__law_begin ["_law_script"] 1 S__law_begin) (z_range : mg "range" = none) (z_min : mg "min" = none) (z_len : mg "len" = none) (H__law_string : Fn1 P w K mg base 3 "_law_string" s__law_string ["_law_draw"] 1 S__law_string) (H__law_right : Fn1G P w K mg base 3 "_law_right" s__law_right ["_law_what"] 1 S__law_right) (H__law_next : Fn1 P w K mg base 2 "_law_next" s__law_next ["_law_draw", "_law_bound"] 2 S__law_next)  : Fn1G P w K mg base 4 "law" s_law ["_law_script"] 1 S_law :=
  fn1G D sc_law rfl (fun _ _ _ _ _ _ us hl => match us, hl with | [_], _ => rfl) (W := fun Ξ => w_law Ξ) (fun f cdv A outer s H E hg hr => ⟨_, (pss_cons (ps_set (i := 1) sc_law.nd rfl (Or.inl rfl) (pe_fnK (K := K) H__law_begin hr (by decide) passL (pa_cons (pv 0) pa_nil)))
  (pss_cons (ps_for (passes_of rfl) rfl (pi_range1 rfl z_range (pa_cons (pe_callB b_min (by rfl) z_min (by decide +kernel) (pa_cons pe_int (pa_cons (pe_op (k_add (K := K)) pe_int (pe_callB (b_len (K := K)) (by rfl) z_len PySem.boot_len (pa_cons (pv 0) pa_nil))) pa_nil))) pa_nil)) (pg_name (i := 2) sc_law.nd rfl (by first | exact Or.inl rfl | exact Or.inr rfl))
  (pss_cons (ps_for (passes_of rfl) rfl (pi_seqK (K := K) (pe_fnK (K := K) H__law_string hr (by decide) passL (pa_cons (pv 1) pa_nil))) (pg_name (i := 3) sc_law.nd rfl (by first | exact Or.inl rfl | exact Or.inr rfl))
  (pss_one (ps_if (pt_not (pt_trK (K := K) (pe_fnGK (K := K) H__law_right hg hr (by decide) passL (pa_cons (pv 3) pa_nil))))
  (pss_one (ps_ret pe_bl)) pss_nil)))
  (pss_cons (ps_set (i := 4) sc_law.nd rfl (Or.inl rfl) (pe_ixK (K := K) hr (pe_lst (pa_cons pe_non (pa_cons pe_int (pa_cons pe_bl (pa_cons (pe_tup pa_nil) (pa_cons (pe_lst (pa_cons pe_str pa_nil)) (pa_cons (pe_tup (pa_cons pe_str pa_nil)) (pa_cons pe_dnewK (pa_cons (pe_disp (pps_cons pe_str pe_int pps_nil) (by rfl) (by rfl) (fun z => by cases z) (by decide)) (pa_cons (pe_op k_pow pe_int pe_int) pa_nil)))))))))) (pe_fnK (K := K) H__law_next hr (by decide) passL (pa_cons (pv 1) (pa_cons pe_int pa_nil)))))
  (pss_one (ps_if (pt_not (pt_trK (K := K) (pe_fnGK (K := K) H__law_right hg hr (by decide) passL (pa_cons (pv 4) pa_nil))))
  (pss_one (ps_ret pe_bl)) pss_nil)))))
  (pss_one (ps_ret pe_bl)))),
  fun Ξ => inferInstance⟩) pure_law
end PK
set_option maxRecDepth 1000000
set_option maxHeartbeats 0
namespace PK
open PySem PySem.Spec PyProof.Rows L2 DL
def d__law_begin : He.DefD := ⟨("_law_begin", none), "_law_begin", "_law_begin", defArgs s__law_begin, defBody s__law_begin, defScope s__law_begin, [], []⟩
def d__law_mixed : He.DefD := ⟨("_law_mixed", none), "_law_mixed", "_law_mixed", defArgs s__law_mixed, defBody s__law_mixed, defScope s__law_mixed, [], []⟩
def d__law_next : He.DefD := ⟨("_law_next", none), "_law_next", "_law_next", defArgs s__law_next, defBody s__law_next, defScope s__law_next, [], []⟩
def d__law_consists : He.DefD := ⟨("_law_consists", none), "_law_consists", "_law_consists", defArgs s__law_consists, defBody s__law_consists, defScope s__law_consists, [], []⟩
def d_consists_of : He.DefD := ⟨("consists_of", none), "consists_of", "consists_of", defArgs s_consists_of, defBody s_consists_of, defScope s_consists_of, [], []⟩
def d_is_name : He.DefD := ⟨("is_name", none), "is_name", "is_name", defArgs s_is_name, defBody s_is_name, defScope s_is_name, [], []⟩
def d_is_path : He.DefD := ⟨("is_path", none), "is_path", "is_path", defArgs s_is_path, defBody s_is_path, defScope s_is_path, [], []⟩
def d_is_word : He.DefD := ⟨("is_word", none), "is_word", "is_word", defArgs s_is_word, defBody s_is_word, defScope s_is_word, [], []⟩
def d__law_right : He.DefD := ⟨("_law_right", none), "_law_right", "_law_right", defArgs s__law_right, defBody s__law_right, defScope s__law_right, [], []⟩
def d__law_string : He.DefD := ⟨("_law_string", none), "_law_string", "_law_string", defArgs s__law_string, defBody s__law_string, defScope s__law_string, [], []⟩
def d_law : He.DefD := ⟨("law", none), "law", "law", defArgs s_law, defBody s_law, defScope s_law, [], []⟩
def fnL : List He.DefD := [d__law_begin, d__law_mixed, d__law_next, d__law_consists, d_consists_of, d_is_name, d_is_path, d_is_word, d__law_right, d__law_string, d_law]
def faL : List He.Fa := [.glo "_law_begin", .glo "_law_mixed", .glo "_law_next", .glo "_law_consists", .glo "consists_of", .glo "is_name", .glo "is_path", .glo "is_word", .glo "_law_right", .glo "_law_string", .glo "law", .free "len", .free "isinstance", .free "str", .free "all", .str "LETTERS" "abcdefghijklmnopqrstuvwxyz", .int "MOST_NAME" 20, .str "DIGITS" "0123456789", .int "MOST_PATH" 60, .int "MOST_WORD" 12, .free "repr", .free "range", .free "min"]
def names0 : List PySem.Str := ["__name__", "LETTERS", "DIGITS", "MOST_WORD", "MOST_NAME", "MOST_PATH", "consists_of", "is_word", "is_name", "is_path", "_law_begin", "_law_mixed", "_law_next", "_law_string", "_law_consists", "_law_right"]
abbrev names : List PySem.Str := names0
abbrev RR : PySem.W.OpenRow := PySem.W.OpenLaw.row PySem.Challenge.rw_parcelindex_k02_names_words_and_paths
abbrev vw : Program := PySem.W.view RR.prog [17]
abbrev hk : PySem.W.Hook := He.hookD 4 faL fnL
def ob (s : PySem.W.SharedT) : He.AlD := He.obsDG 4 faL fnL (HandSHeadRun.getT s)
theorem ob_eq (s : PySem.W.SharedT) : ob s = hk.obs s.abs := He.obsDG_eq (HandSHeadRun.getT_eq s)
theorem run (w : World) : HandSHeadRun.RunEq RR vw hk ob 3000 names w := by
  intro os
  kernel_rfl
theorem facts {P : Program} {w : World} {K : Frag} {h : Heap} {mg : Str → Option Value} {f : Addr} (X : K.In h) (G : h.Ns mainGlobals mg) (hfa : mg ("law" : Str) = some (.ref f)) (c : He.SaysD faL fnL K) :
    ∃ fd : FuncData, (∀ (s : Shared) (v : Value), BindsTo s fd ⟨[v], []⟩ [("_law_script", v)]) ∧ ∀ base : Heap, K.In base → base.Ns mainGlobals mg → FnG P w K mg base (L2.CX P w) 4 f fd ["_law_script"] (toSp K 1 S_law) := by
  have D__law_begin : Def1 K mg "_law_begin" s__law_begin := by
    obtain ⟨fd, F⟩ := c.def_ 0 (d := d__law_begin) rfl
    exact ⟨_, fd, He.glo_ok X G (c.fact 0 (f := .glo "_law_begin") rfl), F⟩
  have D__law_mixed : Def1 K mg "_law_mixed" s__law_mixed := by
    obtain ⟨fd, F⟩ := c.def_ 1 (d := d__law_mixed) rfl
    exact ⟨_, fd, He.glo_ok X G (c.fact 1 (f := .glo "_law_mixed") rfl), F⟩
  have D__law_next : Def1 K mg "_law_next" s__law_next := by
    obtain ⟨fd, F⟩ := c.def_ 2 (d := d__law_next) rfl
    exact ⟨_, fd, He.glo_ok X G (c.fact 2 (f := .glo "_law_next") rfl), F⟩
  have D__law_consists : Def1 K mg "_law_consists" s__law_consists := by
    obtain ⟨fd, F⟩ := c.def_ 3 (d := d__law_consists) rfl
    exact ⟨_, fd, He.glo_ok X G (c.fact 3 (f := .glo "_law_consists") rfl), F⟩
  have D_consists_of : Def1 K mg "consists_of" s_consists_of := by
    obtain ⟨fd, F⟩ := c.def_ 4 (d := d_consists_of) rfl
    exact ⟨_, fd, He.glo_ok X G (c.fact 4 (f := .glo "consists_of") rfl), F⟩
  have D_is_name : Def1 K mg "is_name" s_is_name := by
    obtain ⟨fd, F⟩ := c.def_ 5 (d := d_is_name) rfl
    exact ⟨_, fd, He.glo_ok X G (c.fact 5 (f := .glo "is_name") rfl), F⟩
  have D_is_path : Def1 K mg "is_path" s_is_path := by
    obtain ⟨fd, F⟩ := c.def_ 6 (d := d_is_path) rfl
    exact ⟨_, fd, He.glo_ok X G (c.fact 6 (f := .glo "is_path") rfl), F⟩
  have D_is_word : Def1 K mg "is_word" s_is_word := by
    obtain ⟨fd, F⟩ := c.def_ 7 (d := d_is_word) rfl
    exact ⟨_, fd, He.glo_ok X G (c.fact 7 (f := .glo "is_word") rfl), F⟩
  have D__law_right : Def1 K mg "_law_right" s__law_right := by
    obtain ⟨fd, F⟩ := c.def_ 8 (d := d__law_right) rfl
    exact ⟨_, fd, He.glo_ok X G (c.fact 8 (f := .glo "_law_right") rfl), F⟩
  have D__law_string : Def1 K mg "_law_string" s__law_string := by
    obtain ⟨fd, F⟩ := c.def_ 9 (d := d__law_string) rfl
    exact ⟨_, fd, He.glo_ok X G (c.fact 9 (f := .glo "_law_string") rfl), F⟩
  have D_law : Def1 K mg "law" s_law := by
    obtain ⟨fd, F⟩ := c.def_ 10 (d := d_law) rfl
    exact ⟨_, fd, He.glo_ok X G (c.fact 10 (f := .glo "law") rfl), F⟩
  have z_len : mg "len" = none := He.free_ok X G (c.fact 11 (f := .free "len") rfl)
  have z_isinstance : mg "isinstance" = none := He.free_ok X G (c.fact 12 (f := .free "isinstance") rfl)
  have z_str : mg "str" = none := He.free_ok X G (c.fact 13 (f := .free "str") rfl)
  have z_all : mg "all" = none := He.free_ok X G (c.fact 14 (f := .free "all") rfl)
  have g_LETTERS : ∃ t, mg "LETTERS" = some (.str "abcdefghijklmnopqrstuvwxyz" t) := He.str_ok X G (c.fact 15 (f := .str "LETTERS" "abcdefghijklmnopqrstuvwxyz") rfl)
  have g_MOST_NAME : ∃ t, mg "MOST_NAME" = some (.int 20 t) := He.int_ok X G (c.fact 16 (f := .int "MOST_NAME" 20) rfl)
  have g_DIGITS : ∃ t, mg "DIGITS" = some (.str "0123456789" t) := He.str_ok X G (c.fact 17 (f := .str "DIGITS" "0123456789") rfl)
  have g_MOST_PATH : ∃ t, mg "MOST_PATH" = some (.int 60 t) := He.int_ok X G (c.fact 18 (f := .int "MOST_PATH" 60) rfl)
  have g_MOST_WORD : ∃ t, mg "MOST_WORD" = some (.int 12 t) := He.int_ok X G (c.fact 19 (f := .int "MOST_WORD" 12) rfl)
  have z_repr : mg "repr" = none := He.free_ok X G (c.fact 20 (f := .free "repr") rfl)
  have z_range : mg "range" = none := He.free_ok X G (c.fact 21 (f := .free "range") rfl)
  have z_min : mg "min" = none := He.free_ok X G (c.fact 22 (f := .free "min") rfl)
  obtain ⟨f', fd, hm, F⟩ := id D_law
  have e := hfa.symm.trans hm
  cases e
  have b := FunD.bindsA (ps := ["_law_script"]) F fun _ _ _ _ _ _ us hl => match us, hl with | [_], _ => rfl
  refine ⟨fd, fun s v => b s [v] rfl, fun base _ _ => ?_⟩
  have H__law_begin := ok__law_begin (P := P) (w := w) (base := base) D__law_begin 
  have H__law_mixed := ok__law_mixed (P := P) (w := w) (base := base) D__law_mixed 
  have H__law_next := ok__law_next (P := P) (w := w) (base := base) D__law_next z_len H__law_mixed
  have H__law_consists := ok__law_consists (P := P) (w := w) (base := base) D__law_consists z_len z_isinstance z_str
  have H_consists_of := ok_consists_of (P := P) (w := w) (base := base) D_consists_of z_len z_isinstance z_str z_all
  have H_is_name := ok_is_name (P := P) (w := w) (base := base) D_is_name g_LETTERS H_consists_of g_MOST_NAME g_DIGITS
  have H_is_path := ok_is_path (P := P) (w := w) (base := base) D_is_path H_consists_of g_MOST_PATH g_LETTERS g_DIGITS
  have H_is_word := ok_is_word (P := P) (w := w) (base := base) D_is_word H_consists_of g_MOST_WORD g_LETTERS
  have H__law_right := ok__law_right (P := P) (w := w) (base := base) D__law_right H__law_consists H_is_path H_is_word H_is_name z_repr
  have H__law_string := ok__law_string (P := P) (w := w) (base := base) D__law_string H__law_next z_range z_len
  have H_law := ok_law (P := P) (w := w) (base := base) D_law H__law_begin z_range z_min z_len H__law_string H__law_right H__law_next
  obtain ⟨f2, fd2, m2, F2, _, ok⟩ := H_law.ex
  have e2 := hm.symm.trans m2
  cases e2
  cases funD_uniq F F2
  exact ok
end PK
open PySem PySem.W PySem.Calls PyProof.Rows
theorem PySem.Challenge.cw_parcelindex_k02_names_words_and_paths_holds : PySem.Challenge.rw_parcelindex_k02_names_words_and_paths.Holds := by
  w_on; o_law
  refine HandSHeadRun.head_any (r := OpenLaw.row PySem.Challenge.rw_parcelindex_k02_names_words_and_paths) (q := view (OpenLaw.row PySem.Challenge.rw_parcelindex_k02_names_words_and_paths).prog [17]) (H := PK.hk) (ob := PK.ob) (M := 3000) (loose := PK.names) (d := HandSHeadRun.topDef (OpenLaw.row PySem.Challenge.rw_parcelindex_k02_names_words_and_paths).prog 17) (kwd := []) PK.ob_eq
    (by kernel_rfl) (fun s => by kernel_rfl) PK.run (by kernel_rfl) (by kernel_rfl) (by kernel_rfl) (by rfl) (by first | assumption | decide +kernel) (by decide +kernel) ⟨rfl, rfl, rfl, rfl, rfl, by decide +kernel⟩ ?hw ?hc
  case hw => w_witness2
  case hc =>
    refine DL.walkG (l := PySem.Challenge.rw_parcelindex_k02_names_words_and_paths) (n := 63) (k := 4) (x := "_law_script") rfl (by rw [sizeLine_eq]; decide) (by kernel_rfl) ⟨rfl, by decide, by decide⟩ ?F
    intro w mg fa h Y G hmg0
    obtain ⟨K, KX, c⟩ := Y
    have hmg : mg ("law" : PySem.Str) = some (.ref fa) := by
      have e : (HandSHeadRun.topDef (OpenLaw.row PySem.Challenge.rw_parcelindex_k02_names_words_and_paths).prog 17).name = ("law" : PySem.Str) := by kernel_rfl
      rw [← e]
      exact hmg0
    obtain ⟨fd, hb, hF⟩ := PK.facts (P := (PySem.Challenge.rw_parcelindex_k02_names_words_and_paths).prog) (w := w) KX G hmg c
    exact ⟨K, fd, KX, hb, PK.S_law, PK.law_end, hF⟩
